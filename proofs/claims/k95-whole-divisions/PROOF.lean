import PyProof.Rows.All
import Wide.All
import OpenK.AllK
import Wide.FinOn
import HandS.ForMost
import HandS.Flow
import HandS.Style
import HandS.IsInst
import HandS.Zip
import HandS.Conv
import HandS.TupAny
import HandS.Strs
import HandS.Wide
import HandS.Deep
import HandS.Walk
import HandS.Exc
import HandS.TryOnly
import HandS.Lambda
import HandS.Nested
import HandS.EndTab
import HandS.Replace
import HandS.Codes
import HandS.Small
import KE.KeyNested
import KE.GoesEnum
import KE.KDictDisplayH
import KE.KStateDown
import HandS.Base
import HandS.Call
import HandS.Ends
import HandS.Words
import HandS.Defaults
import HandS.Head0
import HandS.Head1
import HandS.Head2
import HandS.HeadEnd
import HandS.HeadHook1
import HandS.HeadHook2
import HandS.HeadHook3
import HandS.HeadHook4
import HandS.HeadWalk
import HandS.SortInts
import HandS.SetFor
import KE.SortKeyHeap
import HandS.SortKw
import HandS.Set
import PySem.Challenge.RW_letterfolds_k95_whole_divisions
set_option autoImplicit false
set_option linter.all false
namespace K95
/-! ### right tables -/
abbrev Tab := List (List Nat)
/-- the number behind x and the letter c -/
def step (T : Tab) (x c : Nat) : Nat := (T.getD x []).getD c 0
def run (T : Tab) (x : Nat) (w : List Nat) : Nat := w.foldl (step T) x
abbrev val (T : Tab) (w : List Nat) : Nat := run T 0 w
theorem run_nil (T : Tab) (x : Nat) : run T x [] = x := rfl
theorem run_cons (T : Tab) (x c : Nat) (w : List Nat) : run T x (c :: w) = run T (step T x c) w := rfl
theorem run_app (T : Tab) (x : Nat) (u v : List Nat) : run T x (u ++ v) = run T (run T x u) v := by
  unfold run
  rw [List.foldl_append]
theorem run_snoc (T : Tab) (x c : Nat) (w : List Nat) : run T x (w ++ [c]) = step T (run T x w) c := by
  rw [run_app] <;> rfl
/-- so many rows of so many numbers -/
structure Form (T : Tab) (n k : Nat) : Prop where
  len : T.length = n
  n1 : 1 ≤ n
  n2 : n ≤ 2000
  k1 : 1 ≤ k
  k2 : k ≤ 6
  row : ∀ (x : Nat) (r : List Nat), T[x]? = some r → r.length = k
  ent : ∀ (x : Nat) (r : List Nat), T[x]? = some r → ∀ o ∈ r, o < n
theorem Form.at {T : Tab} {n k x : Nat} (F : Form T n k) (h : x < n) : ∃ r, T[x]? = some r ∧ r.length = k ∧ T.getD x [] = r := by
  have hx : x < T.length := by rw [F.len]; exact h
  refine ⟨T[x], List.getElem?_eq_getElem hx, F.row x _ (List.getElem?_eq_getElem hx), ?_⟩
  simp [List.getD_eq_getElem?_getD, hx]
theorem Form.step_lt {T : Tab} {n k x c : Nat} (F : Form T n k) (h : x < n) (hc : c < k) : step T x c < n := by
  obtain ⟨r, h1, h2, h3⟩ := F.at h
  unfold step
  rw [h3]
  have hc' : c < r.length := by omega
  rw [List.getD_eq_getElem?_getD, List.getElem?_eq_getElem hc']
  exact F.ent x r h1 _ (List.getElem_mem hc')
def Letters (k : Nat) (w : List Nat) : Prop := ∀ c ∈ w, c < k
theorem Letters.nil {k : Nat} : Letters k [] := fun c h => by cases h
theorem Letters.cons {k c : Nat} {w : List Nat} (hc : c < k) (h : Letters k w) : Letters k (c :: w) := fun d hd => by
  rcases List.mem_cons.mp hd with e | e
  · rw [e]; exact hc
  · exact h d e
theorem Letters.app {k : Nat} {u w : List Nat} (hu : Letters k u) (h : Letters k w) : Letters k (u ++ w) := fun d hd => by
  rcases List.mem_append.mp hd with e | e
  · exact hu d e
  · exact h d e
theorem Letters.one {k c : Nat} (hc : c < k) : Letters k [c] := Letters.cons hc Letters.nil
theorem Letters.left {k : Nat} {u w : List Nat} (h : Letters k (u ++ w)) : Letters k u := fun d hd => h d (List.mem_append_left _ hd)
theorem Letters.right {k : Nat} {u w : List Nat} (h : Letters k (u ++ w)) : Letters k w := fun d hd => h d (List.mem_append_right _ hd)
theorem Letters.head {k c : Nat} {w : List Nat} (h : Letters k (c :: w)) : c < k := h c List.mem_cons_self
theorem Letters.tail {k c : Nat} {w : List Nat} (h : Letters k (c :: w)) : Letters k w := fun d hd => h d (List.mem_cons_of_mem _ hd)
theorem Form.run_lt {T : Tab} {n k : Nat} (F : Form T n k) : ∀ {w : List Nat} {x : Nat}, x < n → Letters k w → run T x w < n
  | [], _, h, _ => h
  | c :: w, x, h, hw => by
    rw [run_cons]
    exact F.run_lt (F.step_lt h hw.head) hw.tail
/-! ### the order of least words -/
def scanRow : Nat → List Nat → Option Nat
  | met, [] => some met
  | met, o :: r => if o > met then none else scanRow (if o = met then met + 1 else met) r
def scan : Nat → Nat → Tab → Option Nat
  | _, met, [] => some met
  | i, met, row :: r => if i ≥ met then none else match scanRow met row with
    | some met' => scan (i + 1) met' r
    | none => none
/-! ### the tree of least words -/
def treeRow (n : Nat) : Nat → List Nat → List (Nat × Nat) → List (Nat × Nat)
  | _, [], acc => acc
  | c, o :: r, acc => treeRow n (c + 1) r (if o = acc.length + 1 then acc ++ [(n, c)] else acc)
def treeFrom : Nat → List (List Nat) → List (Nat × Nat) → List (Nat × Nat)
  | _, [], acc => acc
  | n, row :: r, acc => treeFrom (n + 1) r (treeRow n 0 row acc)
/-- entry i tells number i + 1: the number ahead, the last letter -/
def treeOf (T : Tab) : List (Nat × Nat) := treeFrom 0 T []
def pathsFrom : List (Nat × Nat) → List (List Nat) → List (List Nat)
  | [], acc => acc
  | (a, c) :: r, acc => pathsFrom r (acc ++ [acc.getD a [] ++ [c]])
/-- the letters' places of each number's word -/
def pathsOf (T : Tab) : List (List Nat) := pathsFrom (treeOf T) [[]]
def path (T : Tab) (n : Nat) : List Nat := (pathsOf T).getD n []
def leftsFrom (T : Tab) : List (Nat × Nat) → Tab → Tab
  | [], acc => acc
  | (a, c) :: r, acc => leftsFrom T r (acc ++ [(acc.getD a []).map fun x => step T x c])
def leftsOf (T : Tab) : Tab := leftsFrom T (treeOf T) [T.getD 0 []]
/-- what the constructor looks at -/
structure Good (T : Tab) (n k : Nat) : Prop where
  form : Form T n k
  ord : ∃ m, scan 0 1 T = some m
  prod : ∀ x c, x < n → c < k → (leftsOf T).getD (step T x c) [] = ((leftsOf T).getD x []).map fun y => step T y c
def mul (T : Tab) (x y : Nat) : Nat := run T x (path T y)
section
variable {T : Tab} {n k : Nat}
/-- what the tree's entries tell -/
def TreeOk (T : Tab) (k : Nat) (acc : List (Nat × Nat)) : Prop := ∀ j a c, acc[j]? = some (a, c) → a ≤ j ∧ c < k ∧ step T a c = j + 1
theorem treeRow_ok {N : Nat} : ∀ (r : List Nat) (c : Nat) (acc : List (Nat × Nat)) (met' : Nat), TreeOk T k acc → N ≤ acc.length → (∀ j o, r[j]? = some o → step T N (c + j) = o ∧ c + j < k) → scanRow (acc.length + 1) r = some met' →
    TreeOk T k (treeRow N c r acc) ∧ (treeRow N c r acc).length + 1 = met'
  | [], c, acc, met', h, _, _, e => by
    simp only [scanRow, Option.some.injEq] at e
    exact ⟨h, e⟩
  | o :: r, c, acc, met', h, hn, hr, e => by
    simp only [scanRow] at e
    split at e
    · cases e
    · obtain ⟨h0, hc⟩ := hr 0 o (by simp)
      have hr' : ∀ j o', r[j]? = some o' → step T N (c + 1 + j) = o' ∧ c + 1 + j < k := fun j o' hj => by
        have := hr (j + 1) o' (by simpa using hj)
        rw [show c + (j + 1) = c + 1 + j by omega] at this
        exact this
      simp only [treeRow]
      by_cases ho : o = acc.length + 1
      · rw [if_pos ho] at e ⊢
        refine treeRow_ok r (c + 1) (acc ++ [(N, c)]) met' (fun j a d hj => ?_) (by simp; omega) hr' (by rw [List.length_append]; exact e)
        by_cases hl : j < acc.length
        · rw [List.getElem?_append_left hl] at hj
          exact h j a d hj
        · rw [List.getElem?_append_right (by omega)] at hj
          have hj0 : j - acc.length = 0 := by
            cases q : j - acc.length with
            | zero => rfl
            | succ m => rw [q] at hj; simp at hj
          rw [hj0] at hj
          simp only [List.getElem?_cons_zero, Option.some.injEq, Prod.mk.injEq] at hj
          obtain ⟨rfl, rfl⟩ := hj
          have h0' : step T N c = o := h0
          have hc' : c < k := hc
          exact ⟨by omega, hc', by rw [h0', ho]; omega⟩
      · rw [if_neg ho] at e ⊢
        exact treeRow_ok r (c + 1) acc met' h hn hr' e
theorem treeFrom_ok (F : Form T n k) : ∀ (rows : Tab) (i : Nat) (acc : List (Nat × Nat)) (met' : Nat), TreeOk T k acc → (∀ j row, rows[j]? = some row → T[i + j]? = some row) → scan i (acc.length + 1) rows = some met' →
    TreeOk T k (treeFrom i rows acc) ∧ (treeFrom i rows acc).length + 1 = met'
  | [], i, acc, met', h, _, e => by
    simp only [scan, Option.some.injEq] at e
    exact ⟨h, e⟩
  | row :: rows, i, acc, met', h, hr, e => by
    simp only [scan] at e
    split at e
    · cases e
    · rename_i hi
      cases q : scanRow (acc.length + 1) row with
      | none => rw [q] at e; cases e
      | some m =>
        rw [q] at e
        have hT : T[i]? = some row := by simpa using hr 0 row (by simp)
        obtain ⟨a1, a2⟩ := treeRow_ok (T := T) (k := k) (N := i) row 0 acc m h (by omega) (fun j o hj => by
          have hlen := F.row i row hT
          have hjl : j < row.length := (List.getElem?_eq_some_iff.mp hj).1
          refine ⟨?_, by omega⟩
          have hg : T.getD i [] = row := by rw [List.getD_eq_getElem?_getD, hT] <;> rfl
          unfold step
          rw [hg, Nat.zero_add, List.getD_eq_getElem?_getD, hj] <;> rfl) q
        simp only [treeFrom]
        refine treeFrom_ok F rows (i + 1) (treeRow i 0 row acc) met' a1 (fun j row' hj => ?_) (by rw [a2]; exact e)
        have := hr (j + 1) row' (by simpa using hj)
        rw [show i + 1 + j = i + (j + 1) by omega]
        exact this
theorem scanRow_le {N : Nat} : ∀ {r : List Nat} {met m : Nat}, met ≤ N → (∀ o ∈ r, o < N) → scanRow met r = some m → met ≤ m ∧ m ≤ N
  | [], met, m, h, _, e => by
    simp only [scanRow, Option.some.injEq] at e
    omega
  | o :: r, met, m, h, hr, e => by
    simp only [scanRow] at e
    split at e
    · cases e
    · have ho := hr o List.mem_cons_self
      by_cases q : o = met
      · rw [if_pos q] at e
        have := scanRow_le (N := N) (by omega) (fun o' h' => hr o' (List.mem_cons_of_mem _ h')) e
        omega
      · rw [if_neg q] at e
        exact scanRow_le h (fun o' h' => hr o' (List.mem_cons_of_mem _ h')) e
theorem scan_le {N : Nat} : ∀ {rows : Tab} {i met m : Nat}, met ≤ N → (∀ row ∈ rows, ∀ o ∈ row, o < N) → scan i met rows = some m → met ≤ m ∧ m ≤ N ∧ (rows ≠ [] → i + rows.length ≤ m)
  | [], i, met, m, h, _, e => by
    simp only [scan, Option.some.injEq] at e
    refine ⟨by omega, by omega, fun z => absurd rfl z⟩
  | row :: rows, i, met, m, h, hr, e => by
    simp only [scan] at e
    split at e
    · cases e
    · rename_i hi
      cases q : scanRow met row with
      | none => rw [q] at e; cases e
      | some m1 =>
        rw [q] at e
        obtain ⟨a1, a2⟩ := scanRow_le h (hr row List.mem_cons_self) q
        obtain ⟨b1, b2, b3⟩ := scan_le a2 (fun row' h' => hr row' (List.mem_cons_of_mem _ h')) e
        refine ⟨by omega, b2, fun _ => ?_⟩
        cases rows with
        | nil => simp; omega
        | cons x xs =>
          have := b3 (by simp)
          simp at this ⊢
          omega
theorem Good.scan_n (G : Good T n k) : scan 0 1 T = some n := by
  obtain ⟨m, e⟩ := G.ord
  have := scan_le (N := n) G.form.n1 (fun row hrow o ho => by
    obtain ⟨x, hx⟩ := List.mem_iff_getElem?.mp hrow
    exact G.form.ent x row hx o ho) e
  have h3 := this.2.2 (fun z => by have := G.form.len; rw [z] at this; have := G.form.n1; simp at *; omega)
  have := G.form.len
  have hm : m = n := by omega
  rw [← hm]
  exact e
theorem Good.tree_ok (G : Good T n k) : TreeOk T k (treeOf T) ∧ (treeOf T).length + 1 = n :=
  treeFrom_ok G.form T 0 [] n (fun j a c h => by simp at h) (fun j row h => by simpa using h) G.scan_n
/-- what the words' letters tell -/
def PathsOk (T : Tab) (k : Nat) (acc : List (List Nat)) : Prop := ∀ x p, acc[x]? = some p → val T p = x ∧ Letters k p
theorem pathsFrom_ok : ∀ (tr : List (Nat × Nat)) (acc : List (List Nat)) (i : Nat), PathsOk T k acc → acc.length = i + 1 → (∀ j a c, tr[j]? = some (a, c) → a ≤ i + j ∧ c < k ∧ step T a c = i + j + 1) →
    PathsOk T k (pathsFrom tr acc) ∧ (pathsFrom tr acc).length = acc.length + tr.length
  | [], acc, i, h, _, _ => ⟨h, by simp [pathsFrom]⟩
  | (a, c) :: tr, acc, i, h, hl, ht => by
    obtain ⟨t1, t2, t3⟩ := ht 0 a c (by simp)
    simp only [pathsFrom]
    have ha : a < acc.length := by omega
    have hg : acc.getD a [] = acc[a] := by simp [List.getD_eq_getElem?_getD, ha]
    obtain ⟨p1, p2⟩ := h a acc[a] (List.getElem?_eq_getElem ha)
    have h' : PathsOk T k (acc ++ [acc.getD a [] ++ [c]]) := fun x p hx => by
      by_cases hlx : x < acc.length
      · rw [List.getElem?_append_left hlx] at hx
        exact h x p hx
      · rw [List.getElem?_append_right (by omega)] at hx
        have hx0 : x - acc.length = 0 := by
          cases q : x - acc.length with
          | zero => rfl
          | succ m => rw [q] at hx; simp at hx
        rw [hx0] at hx
        simp only [List.getElem?_cons_zero, Option.some.injEq] at hx
        rw [← hx, hg]
        refine ⟨?_, Letters.app p2 (Letters.one t2)⟩
        show run T 0 (acc[a] ++ [c]) = x
        rw [run_snoc, show run T 0 acc[a] = a from p1, t3]
        omega
    obtain ⟨q1, q2⟩ := pathsFrom_ok tr (acc ++ [acc.getD a [] ++ [c]]) (i + 1) h' (by simp; omega) (fun j a' c' hj => by
      obtain ⟨u1, u2, u3⟩ := ht (j + 1) a' c' (by simpa using hj)
      exact ⟨by omega, u2, by omega⟩)
    exact ⟨q1, by rw [q2]; simp; omega⟩
theorem Good.paths_ok (G : Good T n k) : PathsOk T k (pathsOf T) ∧ (pathsOf T).length = n := by
  obtain ⟨t1, t2⟩ := G.tree_ok
  obtain ⟨q1, q2⟩ := pathsFrom_ok (T := T) (k := k) (treeOf T) [[]] 0 (fun x p hx => by
    cases x with
    | zero => simp at hx; subst hx; exact ⟨rfl, Letters.nil⟩
    | succ m => simp at hx) rfl (fun j a c h => by have := t1 j a c h; simpa using this)
  exact ⟨q1, by show (pathsFrom _ _).length = n; rw [q2]; simp; omega⟩
theorem Good.path_ok (G : Good T n k) {x : Nat} (h : x < n) : val T (path T x) = x ∧ Letters k (path T x) := by
  obtain ⟨p1, p2⟩ := G.paths_ok
  have hx : x < (pathsOf T).length := by rw [p2]; exact h
  have := p1 x _ (List.getElem?_eq_getElem hx)
  unfold K95.path
  rw [List.getD_eq_getElem?_getD, List.getElem?_eq_getElem hx]
  exact this
theorem pathsFrom_pre : ∀ (tr : List (Nat × Nat)) (acc : List (List Nat)) (i : Nat), i < acc.length → (pathsFrom tr acc)[i]? = acc[i]?
  | [], acc, i, _ => rfl
  | (a, c) :: tr, acc, i, h => by
    simp only [pathsFrom]
    rw [pathsFrom_pre tr _ i (by simp; omega), List.getElem?_append_left h]
theorem path_zero : path T 0 = [] := by
  unfold path pathsOf
  rw [List.getD_eq_getElem?_getD, pathsFrom_pre _ _ 0 (by simp)] <;> rfl
/-- the left table tells what a letter makes on the left -/
theorem leftsFrom_ok : ∀ (tr : List (Nat × Nat)) (pacc : List (List Nat)) (acc : Tab), acc.length = pacc.length → (∀ (x : Nat) (p : List Nat), pacc[x]? = some p → acc[x]? = some ((List.range k).map fun c => run T (step T 0 c) p)) →
    (∀ (j a c : Nat), tr[j]? = some (a, c) → a < pacc.length + j) → ∀ (x : Nat) (p : List Nat), (pathsFrom tr pacc)[x]? = some p → (leftsFrom T tr acc)[x]? = some ((List.range k).map fun c => run T (step T 0 c) p)
  | [], pacc, acc, _, h, _, x, p, hx => h x p hx
  | (a, c) :: tr, pacc, acc, hl, h, ht, x, p, hx => by
    have ha : a < pacc.length := by have := ht 0 a c (by simp); omega
    simp only [pathsFrom] at hx
    simp only [leftsFrom]
    refine leftsFrom_ok tr _ _ (by simp [hl]) (fun y q hy => ?_) (fun j a' c' hj => ?_) x p hx
    · by_cases hly : y < pacc.length
      · rw [List.getElem?_append_left hly] at hy
        rw [List.getElem?_append_left (by omega)]
        exact h y q hy
      · rw [List.getElem?_append_right (by omega)] at hy ⊢
        rw [hl]
        have hy0 : y - pacc.length = 0 := by
          cases e : y - pacc.length with
          | zero => rfl
          | succ m => rw [e] at hy; simp at hy
        rw [hy0] at hy ⊢
        simp only [List.getElem?_cons_zero, Option.some.injEq] at hy ⊢
        have hA := h a pacc[a] (List.getElem?_eq_getElem ha)
        rw [List.getD_eq_getElem?_getD, hA, ← hy]
        simp only [Option.getD_some, List.map_map]
        refine List.map_congr_left fun d _ => ?_
        show step T (run T (step T 0 d) pacc[a]) c = _
        rw [List.getD_eq_getElem?_getD, List.getElem?_eq_getElem ha, Option.getD_some, run_snoc]
    · have := ht (j + 1) a' c' (by simpa using hj)
      simp
      omega
theorem leftsFrom_len : ∀ (tr : List (Nat × Nat)) (acc : Tab), (leftsFrom T tr acc).length = acc.length + tr.length
  | [], acc => by simp [leftsFrom]
  | (a, c) :: tr, acc => by
    simp only [leftsFrom]
    rw [leftsFrom_len tr]
    simp
    omega
/-- forms and orders alone -/
structure Ordd (T : Tab) (n k : Nat) : Prop where
  form : Form T n k
  ord : scan 0 1 T = some n
theorem Good.ordd (G : Good T n k) : Ordd T n k := ⟨G.form, G.scan_n⟩
theorem Ordd.tree_ok (G : Ordd T n k) : TreeOk T k (treeOf T) ∧ (treeOf T).length + 1 = n :=
  treeFrom_ok G.form T 0 [] n (fun j a c h => by simp at h) (fun j row h => by simpa using h) G.ord
theorem Ordd.paths_ok (G : Ordd T n k) : PathsOk T k (pathsOf T) ∧ (pathsOf T).length = n := by
  obtain ⟨t1, t2⟩ := G.tree_ok
  obtain ⟨q1, q2⟩ := pathsFrom_ok (T := T) (k := k) (treeOf T) [[]] 0 (fun x p hx => by
    cases x with
    | zero => simp at hx; subst hx; exact ⟨rfl, Letters.nil⟩
    | succ m => simp at hx) rfl (fun j a c h => by have := t1 j a c h; simpa using this)
  exact ⟨q1, by show (pathsFrom _ _).length = n; rw [q2]; simp; omega⟩
theorem Ordd.path_ok (G : Ordd T n k) {x : Nat} (h : x < n) : val T (path T x) = x ∧ Letters k (path T x) := by
  obtain ⟨p1, p2⟩ := G.paths_ok
  have hx : x < (pathsOf T).length := by rw [p2]; exact h
  have := p1 x _ (List.getElem?_eq_getElem hx)
  unfold K95.path
  rw [List.getD_eq_getElem?_getD, List.getElem?_eq_getElem hx]
  exact this
theorem Ordd.row_eq (G : Ordd T n k) {x : Nat} (h : x < n) : T.getD x [] = (List.range k).map fun c => step T x c := by
  obtain ⟨r, h1, h2, h3⟩ := G.form.at h
  rw [h3]
  refine List.ext_getElem? fun c => ?_
  rw [List.getElem?_map]
  by_cases hc : c < k
  · rw [List.getElem?_range hc, Option.map_some]
    unfold step
    rw [h3, List.getD_eq_getElem?_getD, List.getElem?_eq_getElem (by omega : c < r.length)]
    rfl
  · rw [List.getElem?_eq_none (by omega), List.getElem?_eq_none (by simp; omega)]
    rfl
theorem Ordd.left_eq (G : Ordd T n k) {x : Nat} (h : x < n) : (leftsOf T).getD x [] = (List.range k).map fun c => run T (step T 0 c) (K95.path T x) := by
  obtain ⟨t1, t2⟩ := G.tree_ok
  obtain ⟨p1, p2⟩ := G.paths_ok
  have hx : x < (pathsOf T).length := by rw [p2]; exact h
  have hrow := G.row_eq (x := 0) (by have := G.form.n1; omega)
  have := leftsFrom_ok (T := T) (k := k) (treeOf T) [[]] [T.getD 0 []] rfl (fun y p hy => by
    cases y with
    | zero => simp only [List.getElem?_cons_zero, Option.some.injEq] at hy ⊢; rw [← hy, hrow]; rfl
    | succ m => simp at hy) (fun j a c hj => by have := (t1 j a c hj).1; simp; omega) x _ (List.getElem?_eq_getElem hx)
  unfold leftsOf K95.path
  rw [List.getD_eq_getElem?_getD, this, List.getD_eq_getElem?_getD, List.getElem?_eq_getElem hx]
  rfl
theorem Ordd.lefts_len (G : Ordd T n k) : (leftsOf T).length = n := by
  unfold leftsOf
  rw [leftsFrom_len]
  have := G.tree_ok.2
  simp
  omega
/-- a letter on the left is a function of what stands behind it -/
def LeftC (T : Tab) (k : Nat) : Prop := ∃ F : Nat → Nat → Nat, ∀ c u, c < k → Letters k u → val T (c :: u) = F c (val T u)
theorem Ordd.to_good (G : Ordd T n k) (h : LeftC T k) : Good T n k := by
  obtain ⟨F, hF⟩ := h
  refine ⟨G.form, ⟨_, G.ord⟩, fun x c hx hc => ?_⟩
  have h1 := G.form.step_lt hx hc
  rw [G.left_eq h1, G.left_eq hx, List.map_map]
  refine List.map_congr_left fun d hd => ?_
  have hd' : d < k := List.mem_range.mp hd
  obtain ⟨a1, a2⟩ := G.path_ok h1
  obtain ⟨b1, b2⟩ := G.path_ok hx
  show run T (step T 0 d) (K95.path T (step T x c)) = step T (run T (step T 0 d) (K95.path T x)) c
  rw [← run_cons T 0 d, ← run_cons T 0 d, ← run_snoc]
  have e1 := hF d _ hd' a2
  have e2 := hF d _ hd' (Letters.app b2 (Letters.one hc))
  show val T (d :: K95.path T (step T x c)) = val T (d :: (K95.path T x ++ [c]))
  rw [e1, e2]
  congr 1
  rw [a1]
  show step T x c = run T 0 (K95.path T x ++ [c])
  rw [run_snoc, show run T 0 (K95.path T x) = x from b1]
theorem snoc_ind {α : Type} {p : List α → Prop} (h0 : p []) (h1 : ∀ l a, p l → p (l ++ [a])) : ∀ l, p l := fun l => by
  have key : ∀ l : List α, p l.reverse := fun l => by
    induction l with
    | nil => exact h0
    | cons a l ih => rw [List.reverse_cons]; exact h1 _ _ ih
  have h := key l.reverse
  rw [List.reverse_reverse] at h
  exact h
theorem Good.leftC (G : Good T n k) : LeftC T k := by
  have O := G.ordd
  refine ⟨fun c x => run T (step T 0 c) (K95.path T x), fun c u hc => ?_⟩
  have n1 := G.form.n1
  induction u using snoc_ind with
  | h0 =>
    intro _
    show run T 0 [c] = run T (step T 0 c) (K95.path T (run T 0 []))
    rw [run_nil, path_zero] <;> rfl
  | h1 u d ih =>
    intro hu
    have ih' := ih hu.left
    have hd : d < k := hu d (by simp)
    have hv : val T u < n := G.form.run_lt (by omega) hu.left
    have e := G.prod (val T u) d hv hd
    rw [O.left_eq (G.form.step_lt hv hd), O.left_eq hv, List.map_map] at e
    have e2 := congrArg (fun l => l[c]?) e
    simp only [List.getElem?_map, List.getElem?_range hc, Option.map_some, Option.some.injEq, Function.comp] at e2
    show run T 0 (c :: (u ++ [d])) = run T (step T 0 c) (K95.path T (run T 0 (u ++ [d])))
    rw [← List.cons_append, run_snoc, run_snoc]
    show step T (val T (c :: u)) d = run T (step T 0 c) (K95.path T (step T (val T u) d))
    rw [ih', e2]
/-- equal words go on equally on the right of anything -/
theorem Good.cong (G : Good T n k) : ∀ (v : List Nat) {u u' : List Nat}, Letters k v → Letters k u → Letters k u' → val T u = val T u' → val T (v ++ u) = val T (v ++ u')
  | [], u, u', _, _, _, h => h
  | c :: v, u, u', hv, hu, hu', h => by
    obtain ⟨F, hF⟩ := G.leftC
    have ih := G.cong v hv.tail hu hu' h
    show val T (c :: (v ++ u)) = val T (c :: (v ++ u'))
    rw [hF c _ hv.head (Letters.app hv.tail hu), hF c _ hv.head (Letters.app hv.tail hu'), ih]
theorem Good.run_eq (G : Good T n k) {x : Nat} {u : List Nat} (hx : x < n) (hu : Letters k u) : run T x u = mul T x (val T u) := by
  obtain ⟨a1, a2⟩ := G.path_ok hx
  have hv : val T u < n := G.form.run_lt (by have := G.form.n1; omega) hu
  obtain ⟨b1, b2⟩ := G.path_ok hv
  have := G.cong (K95.path T x) a2 hu b2 b1.symm
  unfold val at this
  rw [run_app, run_app] at this
  rw [show run T 0 (K95.path T x) = x from a1] at this
  exact this
theorem Good.mul_lt (G : Good T n k) {x y : Nat} (hx : x < n) (hy : y < n) : mul T x y < n := G.form.run_lt hx (G.path_ok hy).2
theorem Good.mul_val (G : Good T n k) {u v : List Nat} (hu : Letters k u) (hv : Letters k v) : mul T (val T u) (val T v) = val T (u ++ v) := by
  have hx : val T u < n := G.form.run_lt (by have := G.form.n1; omega) hu
  rw [← G.run_eq hx hv]
  exact (run_app T 0 u v).symm
theorem Good.assoc (G : Good T n k) {x y z : Nat} (hx : x < n) (hy : y < n) (hz : z < n) : mul T (mul T x y) z = mul T x (mul T y z) := by
  obtain ⟨a1, a2⟩ := G.path_ok hx
  obtain ⟨b1, b2⟩ := G.path_ok hy
  obtain ⟨c1, c2⟩ := G.path_ok hz
  have e : ∀ {t : Nat}, t < n → t = val T (K95.path T t) := fun ht => (G.path_ok ht).1.symm
  rw [e hx, e hy, e hz, G.mul_val a2 b2, G.mul_val (Letters.app a2 b2) c2, G.mul_val b2 c2, G.mul_val a2 (Letters.app b2 c2), List.append_assoc]
theorem Good.one_mul (G : Good T n k) {x : Nat} (hx : x < n) : mul T 0 x = x := (G.path_ok hx).1
theorem mul_one (T : Tab) (x : Nat) : mul T x 0 = x := by
  unfold mul
  rw [path_zero] <;> rfl
theorem Good.step_mul (G : Good T n k) {x c : Nat} (hx : x < n) (hc : c < k) : step T x c = mul T x (step T 0 c) :=
  G.run_eq (u := [c]) hx (Letters.one hc)
theorem pathsFrom_len : ∀ (tr : List (Nat × Nat)) (acc : List (List Nat)) (i : Nat), acc.length = i + 1 → (∀ (j : Nat) (p : List Nat), acc[j]? = some p → p.length ≤ j) → (∀ (j a c : Nat), tr[j]? = some (a, c) → a ≤ i + j) →
    ∀ (j : Nat) (p : List Nat), (pathsFrom tr acc)[j]? = some p → p.length ≤ j
  | [], acc, i, _, h, _, j, p, e => h j p e
  | (a, c) :: tr, acc, i, hl, h, ht, j, p, e => by
    have ha := ht 0 a c (by simp)
    simp only [pathsFrom] at e
    refine pathsFrom_len tr _ (i + 1) (by simp [hl]) (fun j p hj => ?_) (fun j a' c' hj => ?_) j p e
    · by_cases hlt : j < acc.length
      · rw [List.getElem?_append_left hlt] at hj
        exact h j p hj
      · rw [List.getElem?_append_right (by omega)] at hj
        have h0 : j - acc.length = 0 := by
          have := (List.getElem?_eq_some_iff.mp hj).1
          simp at this
          omega
        rw [h0] at hj
        simp at hj
        subst hj
        have ha2 : a < acc.length := by omega
        have := h a _ (List.getElem?_eq_getElem ha2)
        rw [List.getElem?_eq_getElem ha2]
        simp
        omega
    · have := ht (j + 1) a' c' (by simpa using hj)
      omega
theorem Good.path_len (G : Good T n k) (x : Nat) (h : x < n) : ((pathsOf T)[x]'(by rw [G.paths_ok.2]; exact h)).length ≤ 2000 := by
  have h1 := pathsFrom_len (treeOf T) [[]] 0 rfl (fun j p e => by
    cases j with
    | zero => simp at e; subst e; simp
    | succ j => simp at e) (fun j a c e => by have := (G.tree_ok.1 j a c e).1; omega) x _ (List.getElem?_eq_getElem (by have := G.paths_ok.2; unfold pathsOf at this; omega))
  have := G.form.n2
  exact Nat.le_trans h1 (by omega)
end
end K95
set_option autoImplicit false
set_option linter.all false
namespace K95
/-! ### a walk over first met things -/
section
variable {α : Type} [DecidableEq α]
def grow (f ys : List α) : List α := ys.foldl (fun f y => if y ∈ f then f else f ++ [y]) f
theorem grow_nil (f : List α) : grow f [] = f := rfl
theorem grow_cons (f : List α) (y : α) (ys : List α) : grow f (y :: ys) = grow (if y ∈ f then f else f ++ [y]) ys := rfl
theorem grow_pre : ∀ (ys f : List α), ∃ t, grow f ys = f ++ t
  | [], f => ⟨[], by simp [grow_nil]⟩
  | y :: ys, f => by
    rw [grow_cons]
    obtain ⟨t, h⟩ := grow_pre ys (if y ∈ f then f else f ++ [y])
    rw [h]
    by_cases hy : y ∈ f
    · exact ⟨t, by rw [if_pos hy]⟩
    · exact ⟨y :: t, by rw [if_neg hy]; simp⟩
theorem nodup_snoc {l : List α} {x : α} (h : l.Nodup) (hx : x ∉ l) : (l ++ [x]).Nodup := by
  rw [List.nodup_append]
  refine ⟨h, by simp, fun a ha b hb e => ?_⟩
  rw [List.mem_singleton.mp hb] at e
  exact hx (e ▸ ha)
theorem grow_nodup : ∀ (ys f : List α), f.Nodup → (grow f ys).Nodup
  | [], f, h => h
  | y :: ys, f, h => by
    rw [grow_cons]
    refine grow_nodup ys _ ?_
    by_cases hy : y ∈ f
    · rw [if_pos hy]; exact h
    · rw [if_neg hy]; exact nodup_snoc h hy
theorem grow_mem : ∀ (ys f : List α) (x : α), x ∈ grow f ys ↔ x ∈ f ∨ x ∈ ys
  | [], f, x => by simp [grow_nil]
  | y :: ys, f, x => by
    rw [grow_cons, grow_mem]
    by_cases hy : y ∈ f
    · rw [if_pos hy, List.mem_cons]
      constructor
      · rintro (h | h)
        · exact .inl h
        · exact .inr (.inr h)
      · rintro (h | h | h)
        · exact .inl h
        · subst h; exact .inl hy
        · exact .inr h
    · rw [if_neg hy, List.mem_append, List.mem_singleton, List.mem_cons]
      constructor
      · rintro ((h | h) | h)
        · exact .inl h
        · exact .inr (.inl h)
        · exact .inr (.inr h)
      · rintro (h | h | h)
        · exact .inl (.inl h)
        · exact .inl (.inr h)
        · exact .inr h
theorem idx_lt {l : List α} {x : α} (h : x ∈ l) : l.idxOf x < l.length := List.idxOf_lt_length_iff.mpr h
theorem idx_get {l : List α} {x : α} (h : x ∈ l) : l[l.idxOf x]? = some x := by
  rw [List.getElem?_eq_getElem (idx_lt h), List.getElem_idxOf]
theorem idx_eq {l : List α} {x : α} {i : Nat} (hn : l.Nodup) (h : l[i]? = some x) : l.idxOf x = i := by
  have hm := List.mem_of_getElem? h
  have h1 := idx_get hm
  obtain ⟨hi, e⟩ := List.getElem?_eq_some_iff.mp h
  obtain ⟨hj, e2⟩ := List.getElem?_eq_some_iff.mp h1
  exact (List.getElem_inj hn).mp (e2.trans e.symm)
/-- the row's places in order of the first meetings -/
theorem scanRow_grow : ∀ (ys f F : List α), F.Nodup → (∃ t, F = grow f ys ++ t) → scanRow f.length (ys.map fun y => F.idxOf y) = some (grow f ys).length
  | [], f, F, _, _ => rfl
  | y :: ys, f, F, hn, ht => by
    rw [grow_cons] at ht ⊢
    rw [List.map_cons]
    unfold scanRow
    obtain ⟨t, ht⟩ := ht
    by_cases hy : y ∈ f
    · rw [if_pos hy] at ht ⊢
      have hF : ∃ t', F = f ++ t' := by
        obtain ⟨t1, h1⟩ := grow_pre ys f
        exact ⟨t1 ++ t, by rw [ht, h1, List.append_assoc]⟩
      obtain ⟨t', hF⟩ := hF
      have hi : F.idxOf y < f.length := by
        have h0 := idx_get hy
        have := idx_eq (l := F) (i := f.idxOf y) hn (by rw [hF, List.getElem?_append_left (idx_lt hy)]; exact h0)
        rw [this]
        exact idx_lt hy
      rw [if_neg (by omega), if_neg (by omega)]
      exact scanRow_grow ys f F hn ⟨t, ht⟩
    · rw [if_neg hy] at ht ⊢
      have hF : ∃ t', F = (f ++ [y]) ++ t' := by
        obtain ⟨t1, h1⟩ := grow_pre ys (f ++ [y])
        exact ⟨t1 ++ t, by rw [ht, h1, List.append_assoc]⟩
      obtain ⟨t', hF⟩ := hF
      have hi : F.idxOf y = f.length := idx_eq hn (by rw [hF]; simp)
      rw [hi, if_neg (by omega), if_pos rfl]
      have := scanRow_grow ys (f ++ [y]) F hn ⟨t, ht⟩
      rw [List.length_append] at this
      exact this
theorem scan_snoc : ∀ (rows : Tab) (i met m m' : Nat) (r : List Nat), scan i met rows = some m → i + rows.length < m → scanRow m r = some m' → scan i met (rows ++ [r]) = some m'
  | [], i, met, m, m', r, h, hi, hr => by
    have e : met = m := Option.some.inj h
    subst e
    show scan i met [r] = _
    unfold scan
    simp at hi
    rw [if_neg (by omega), hr] <;> rfl
  | q :: rows, i, met, m, m', r, h, hi, hr => by
    rw [List.cons_append]
    unfold scan at h ⊢
    split at h
    · cases h
    · rename_i h0
      rw [if_neg h0]
      split at h
      · rename_i m1 h1
        exact scan_snoc rows (i + 1) m1 m m' r h (by simp at hi; omega) hr
      · cases h
structure Bfs (nx : α → Nat → α) (k : Nat) (x0 : α) (found : List α) (rows : Tab) : Prop where
  nd : found.Nodup
  h0 : found[0]? = some x0
  le : rows.length ≤ found.length
  row : ∀ (i : Nat) (r : List Nat) (x : α), rows[i]? = some r → found[i]? = some x → r.length = k ∧ ∀ c, c < k → ∃ o, r[c]? = some o ∧ found[o]? = some (nx x c)
  sc : scan 0 1 rows = some found.length
  rch : ∀ x ∈ found, ∃ w, Letters k w ∧ w.foldl nx x0 = x
theorem Bfs.start (nx : α → Nat → α) (k : Nat) (x0 : α) : Bfs nx k x0 [x0] [] :=
  ⟨by simp, rfl, by simp, fun i r x h => by simp at h, rfl, fun x hx => ⟨[], Letters.nil, by rw [List.mem_singleton.mp hx]; rfl⟩⟩
theorem Bfs.step {nx : α → Nat → α} {k : Nat} {x0 x : α} {found : List α} {rows : Tab} (B : Bfs nx k x0 found rows) (hx : found[rows.length]? = some x) :
    Bfs nx k x0 (grow found ((List.range k).map (nx x))) (rows ++ [((List.range k).map (nx x)).map fun y => (grow found ((List.range k).map (nx x))).idxOf y]) := by
  obtain ⟨t, ht⟩ := grow_pre ((List.range k).map (nx x)) found
  have hlt : rows.length < found.length := (List.getElem?_eq_some_iff.mp hx).1
  have pre : ∀ (i : Nat) (z : α), found[i]? = some z → (grow found ((List.range k).map (nx x)))[i]? = some z := fun i z h => by
    rw [ht, List.getElem?_append_left (List.getElem?_eq_some_iff.mp h).1]
    exact h
  have nd := grow_nodup ((List.range k).map (nx x)) found B.nd
  refine ⟨nd, pre 0 _ B.h0, by rw [ht]; simp; omega, fun i r z hr hz => ?_, ?_, fun z hz => ?_⟩
  · by_cases hi : i < rows.length
    · rw [List.getElem?_append_left hi] at hr
      have hi2 : i < found.length := by omega
      have hz2 : found[i]? = some z := by
        rw [ht, List.getElem?_append_left hi2] at hz
        exact hz
      obtain ⟨h1, h2⟩ := B.row i r z hr hz2
      refine ⟨h1, fun c hc => ?_⟩
      obtain ⟨o, h3, h4⟩ := h2 c hc
      exact ⟨o, h3, pre _ _ h4⟩
    · rw [List.getElem?_append_right (by omega)] at hr
      have e0 : i - rows.length = 0 := by
        have := (List.getElem?_eq_some_iff.mp hr).1
        simp at this
        omega
      have ei : i = rows.length := by omega
      subst ei
      rw [e0] at hr
      simp only [List.getElem?_cons_zero, Option.some.injEq] at hr
      subst hr
      rw [pre _ _ hx] at hz
      cases hz
      refine ⟨by simp, fun c hc => ⟨(grow found ((List.range k).map (nx x))).idxOf (nx x c), ?_, idx_get ((grow_mem _ _ _).mpr (.inr (List.mem_map.mpr ⟨c, List.mem_range.mpr hc, rfl⟩)))⟩⟩
      rw [List.getElem?_map, List.getElem?_map, List.getElem?_range hc] <;> rfl
  · exact scan_snoc rows 0 1 found.length _ _ B.sc (by omega) (scanRow_grow _ _ _ nd ⟨[], by simp⟩)
  · rcases (grow_mem _ _ _).mp hz with h | h
    · exact B.rch z h
    · obtain ⟨c, hc, rfl⟩ := List.mem_map.mp h
      obtain ⟨w, hw, e⟩ := B.rch x (List.mem_of_getElem? hx)
      exact ⟨w ++ [c], Letters.app hw (Letters.one (List.mem_range.mp hc)), by rw [List.foldl_append, e]; rfl⟩
section
variable {nx : α → Nat → α} {k n : Nat} {x0 : α} {found : List α} {rows : Tab} (B : Bfs nx k x0 found rows) (hl : rows.length = found.length)
include B hl
theorem Bfs.ordd (n2 : found.length ≤ 2000) (k1 : 1 ≤ k) (k2 : k ≤ 6) : Ordd rows found.length k := by
  have h0 : 0 < found.length := (List.getElem?_eq_some_iff.mp B.h0).1
  have get : ∀ i r, rows[i]? = some r → ∃ x, found[i]? = some x := fun i r h => by
    have := (List.getElem?_eq_some_iff.mp h).1
    exact ⟨_, List.getElem?_eq_getElem (by omega)⟩
  refine ⟨⟨hl, h0, n2, k1, k2, fun i r hr => ?_, fun i r hr o ho => ?_⟩, B.sc⟩
  · obtain ⟨x, hx⟩ := get i r hr
    exact (B.row i r x hr hx).1
  · obtain ⟨x, hx⟩ := get i r hr
    obtain ⟨h1, h2⟩ := B.row i r x hr hx
    obtain ⟨c, hc⟩ := List.mem_iff_getElem?.mp ho
    obtain ⟨o', h3, h4⟩ := h2 c (by have := (List.getElem?_eq_some_iff.mp hc).1; omega)
    rw [hc] at h3
    cases h3
    exact (List.getElem?_eq_some_iff.mp h4).1
theorem Bfs.run_at : ∀ (w : List Nat) {i : Nat} {x : α}, Letters k w → found[i]? = some x → found[run rows i w]? = some (w.foldl nx x)
  | [], _, _, _, h => h
  | c :: w, i, x, hw, h => by
    rw [run_cons]
    have hi : i < rows.length := by have := (List.getElem?_eq_some_iff.mp h).1; omega
    obtain ⟨h1, h2⟩ := B.row i rows[i] x (List.getElem?_eq_getElem hi) h
    obtain ⟨o, h3, h4⟩ := h2 c hw.head
    have e : K95.step rows i c = o := by
      unfold K95.step
      rw [List.getD_eq_getElem?_getD, List.getD_eq_getElem?_getD, List.getElem?_eq_getElem hi, Option.getD_some, h3] <;> rfl
    rw [e]
    exact Bfs.run_at w hw.tail h4
theorem Bfs.val_at {w : List Nat} (hw : Letters k w) : found[val rows w]? = some (w.foldl nx x0) := B.run_at hl w hw B.h0
theorem Bfs.good (n2 : found.length ≤ 2000) (k1 : 1 ≤ k) (k2 : k ≤ 6) (hF : ∃ F : Nat → α → α, ∀ c u, c < k → Letters k u → (c :: u).foldl nx x0 = F c (u.foldl nx x0)) : Good rows found.length k := by
  obtain ⟨F, hF⟩ := hF
  refine (B.ordd hl n2 k1 k2).to_good ⟨fun c v => match found[v]? with
    | some x => found.idxOf (F c x)
    | none => 0, fun c u hc hu => ?_⟩
  have h1 := B.val_at hl hu
  have h2 := B.val_at hl (w := c :: u) (Letters.cons hc hu)
  show _ = (match found[val rows u]? with
    | some x => found.idxOf (F c x)
    | none => 0)
  rw [h1]
  show _ = found.idxOf (F c (u.foldl nx x0))
  rw [← hF c u hc hu]
  exact (idx_eq B.nd h2).symm
end
end
end K95
set_option autoImplicit false
set_option linter.all false
namespace K95
/-! ### generated parts -/
section
variable {T : Tab} {n k : Nat} (G : Good T n k)
/-- on the right by the c-th of the numbers -/
def nxM (T : Tab) (nums : List Nat) (x c : Nat) : Nat := mul T x (nums.getD c 0)
include G
theorem getD_lt {nums : List Nat} (hn : ∀ x ∈ nums, x < n) (c : Nat) : nums.getD c 0 < n := by
  have := G.form.n1
  rw [List.getD_eq_getElem?_getD]
  cases e : nums[c]? with
  | none => exact this
  | some y => exact hn y (List.mem_of_getElem? e)
theorem nxM_lt {nums : List Nat} (hn : ∀ x ∈ nums, x < n) {x : Nat} (hx : x < n) (c : Nat) : nxM T nums x c < n := G.mul_lt hx (getD_lt G hn c)
theorem foldl_lt {nums : List Nat} (hn : ∀ x ∈ nums, x < n) : ∀ (u : List Nat) {b : Nat}, b < n → u.foldl (nxM T nums) b < n
  | [], _, h => h
  | c :: u, b, h => foldl_lt hn u (nxM_lt G hn h c)
theorem foldl_mul {nums : List Nat} (hn : ∀ x ∈ nums, x < n) : ∀ (u : List Nat) {a b : Nat}, a < n → b < n → u.foldl (nxM T nums) (mul T a b) = mul T a (u.foldl (nxM T nums) b)
  | [], _, _, _, _ => rfl
  | c :: u, a, b, ha, hb => by
    rw [List.foldl_cons, List.foldl_cons]
    have h : nxM T nums (mul T a b) c = mul T a (nxM T nums b c) := G.assoc ha hb (getD_lt G hn c)
    rw [h]
    exact foldl_mul hn u ha (nxM_lt G hn hb c)
theorem foldl_cons_mul {nums : List Nat} (hn : ∀ x ∈ nums, x < n) (c : Nat) (u : List Nat) : (c :: u).foldl (nxM T nums) 0 = mul T (nums.getD c 0) (u.foldl (nxM T nums) 0) := by
  have h0 : 0 < n := G.form.n1
  have hc := getD_lt G hn c
  rw [List.foldl_cons]
  have h1 : nxM T nums 0 c = mul T (nums.getD c 0) 0 := by
    unfold nxM
    rw [G.one_mul hc, mul_one]
  rw [h1]
  exact foldl_mul G hn u hc h0
theorem gen_good {nums : List Nat} {found : List Nat} {rows : Tab} (hn : ∀ x ∈ nums, x < n) (h1 : 1 ≤ nums.length) (h6 : nums.length ≤ 6) (B : Bfs (nxM T nums) nums.length 0 found rows) (hl : rows.length = found.length) :
    Good rows found.length nums.length ∧ found.length ≤ n ∧ ∀ x ∈ found, x < n := by
  have hlt : ∀ x ∈ found, x < n := fun x hx => by
    obtain ⟨w, _, rfl⟩ := B.rch x hx
    exact foldl_lt G hn w G.form.n1
  have hle : found.length ≤ n := by
    have h2 : ∀ {l : List Nat}, l.Nodup → (∀ x ∈ l, x < n) → l.length ≤ n := by
      intro l hnd hl
      have : ∀ (n : Nat) (l : List Nat), l.Nodup → (∀ x ∈ l, x < n) → l.length ≤ n := by
        intro n
        induction n with
        | zero =>
          intro l _ h
          cases l with
          | nil => simp
          | cons a r => exact absurd (h a List.mem_cons_self) (by omega)
        | succ n ih =>
          intro l hd h
          by_cases hm : n ∈ l
          · have h3 := ih (l.erase n) (hd.erase n) fun x hx => by
              have hx2 := (hd.mem_erase_iff.mp hx)
              have := h x hx2.2
              have := hx2.1
              omega
            rw [List.length_erase_of_mem hm] at h3
            omega
          · have h3 := ih l hd fun x hx => by
              have := h x hx
              have : x ≠ n := fun z => hm (z ▸ hx)
              omega
            omega
      exact this n l hnd hl
    exact h2 B.nd hlt
  have := G.form.n2
  exact ⟨B.good hl (by omega) h1 h6 ⟨fun c y => mul T (nums.getD c 0) y, fun c u _ _ => foldl_cons_mul G hn c u⟩, hle, hlt⟩
end
theorem nodup_lt {n : Nat} {l : List Nat} (hd : l.Nodup) (h : ∀ x ∈ l, x < n) : l.length ≤ n := by
  induction n generalizing l with
  | zero =>
    cases l with
    | nil => simp
    | cons a r => exact absurd (h a List.mem_cons_self) (by omega)
  | succ n ih =>
    by_cases hm : n ∈ l
    · have h3 := ih (hd.erase n) fun x hx => by
        have hx2 := (hd.mem_erase_iff.mp hx)
        have := h x hx2.2
        have := hx2.1
        omega
      rw [List.length_erase_of_mem hm] at h3
      omega
    · have h3 := ih hd fun x hx => by
        have := h x hx
        have : x ≠ n := fun z => hm (z ▸ hx)
        omega
      omega
/-! ### direct products -/
def stepD (A B : Tab) (p : Nat × Nat) (l : Nat × Nat) : Nat × Nat := if l.1 = 0 then (step A p.1 l.2, p.2) else (p.1, step B p.2 l.2)
def ltsD (k1 k2 : Nat) : List (Nat × Nat) := (List.range k1).map (fun c => (0, c)) ++ (List.range k2).map fun c => (1, c)
theorem ltsD_len (k1 k2 : Nat) : (ltsD k1 k2).length = k1 + k2 := by simp [ltsD]
theorem ltsD_mem {k1 k2 : Nat} {l : Nat × Nat} (h : l ∈ ltsD k1 k2) : (l.1 = 0 ∧ l.2 < k1) ∨ (l.1 = 1 ∧ l.2 < k2) := by
  unfold ltsD at h
  rcases List.mem_append.mp h with h | h
  · obtain ⟨c, hc, rfl⟩ := List.mem_map.mp h
    exact .inl ⟨rfl, List.mem_range.mp hc⟩
  · obtain ⟨c, hc, rfl⟩ := List.mem_map.mp h
    exact .inr ⟨rfl, List.mem_range.mp hc⟩
def nxD (A B : Tab) (k1 k2 : Nat) (p : Nat × Nat) (c : Nat) : Nat × Nat := stepD A B p ((ltsD k1 k2).getD c (0, 0))
section
variable {A B : Tab} {n1 k1 n2 k2 : Nat} (GA : Good A n1 k1) (GB : Good B n2 k2)
include GA GB
def inD (n1 n2 : Nat) (p : Nat × Nat) : Prop := p.1 < n1 ∧ p.2 < n2
theorem ltsD_get {c : Nat} (hc : c < k1 + k2) : (ltsD k1 k2).getD c (0, 0) ∈ ltsD k1 k2 := by
  have h : c < (ltsD k1 k2).length := by rw [ltsD_len]; exact hc
  rw [List.getD_eq_getElem?_getD, List.getElem?_eq_getElem h]
  exact List.getElem_mem h
theorem stepD_in {p l : Nat × Nat} (hp : inD n1 n2 p) (hl : l ∈ ltsD k1 k2) : inD n1 n2 (stepD A B p l) := by
  unfold stepD
  rcases ltsD_mem hl with ⟨h1, h2⟩ | ⟨h1, h2⟩
  · rw [if_pos h1]
    exact ⟨GA.form.step_lt hp.1 h2, hp.2⟩
  · rw [if_neg (by omega)]
    exact ⟨hp.1, GB.form.step_lt hp.2 h2⟩
theorem step_mulL {T : Tab} {n k a x c : Nat} (G : Good T n k) (ha : a < n) (hx : x < n) (hc : c < k) : step T (mul T a x) c = mul T a (step T x c) := by
  rw [G.step_mul (G.mul_lt ha hx) hc, G.step_mul hx hc]
  exact G.assoc ha hx (G.form.step_lt G.form.n1 hc)
theorem foldD_mul : ∀ (u : List Nat) {a b : Nat} {p : Nat × Nat}, Letters (k1 + k2) u → a < n1 → b < n2 → inD n1 n2 p → u.foldl (nxD A B k1 k2) (mul A a p.1, mul B b p.2) = (mul A a (u.foldl (nxD A B k1 k2) p).1, mul B b (u.foldl (nxD A B k1 k2) p).2)
  | [], _, _, _, _, _, _, _ => rfl
  | c :: u, a, b, p, hu, ha, hb, hp => by
    have hl := ltsD_get GA GB hu.head
    rw [List.foldl_cons, List.foldl_cons]
    have h : nxD A B k1 k2 (mul A a p.1, mul B b p.2) c = (mul A a (nxD A B k1 k2 p c).1, mul B b (nxD A B k1 k2 p c).2) := by
      unfold nxD stepD
      rcases ltsD_mem hl with ⟨h1, h2⟩ | ⟨h1, h2⟩
      · rw [if_pos h1, if_pos h1]
        show (step A (mul A a p.1) _, mul B b p.2) = (mul A a (step A p.1 _), mul B b p.2)
        rw [step_mulL GA GB GA ha hp.1 h2]
      · have h3 : ¬ ((ltsD k1 k2).getD c (0, 0)).1 = 0 := by omega
        rw [if_neg h3, if_neg h3]
        show (mul A a p.1, step B (mul B b p.2) _) = (mul A a p.1, mul B b (step B p.2 _))
        rw [step_mulL GA GB GB hb hp.2 h2]
    rw [h]
    exact foldD_mul u hu.tail ha hb (stepD_in GA GB hp hl)
theorem direct_good {found : List (Nat × Nat)} {rows : Tab} (h1 : 1 ≤ k1 + k2) (h6 : k1 + k2 ≤ 6) (hs : n1 * n2 ≤ 2000) (Bf : Bfs (nxD A B k1 k2) (k1 + k2) (0, 0) found rows) (hl : rows.length = found.length) (hN : found.length ≤ n1 * n2) : Good rows found.length (k1 + k2) := by
  have z1 := GA.form.n1
  have z2 := GB.form.n1
  refine Bf.good hl (by omega) h1 h6 ⟨fun c p => (mul A (nxD A B k1 k2 (0, 0) c).1 p.1, mul B (nxD A B k1 k2 (0, 0) c).2 p.2), fun c u hc hu => ?_⟩
  have hin := stepD_in GA GB (p := (0, 0)) ⟨z1, z2⟩ (ltsD_get GA GB hc)
  rw [List.foldl_cons]
  have h := foldD_mul GA GB u (a := (nxD A B k1 k2 (0, 0) c).1) (b := (nxD A B k1 k2 (0, 0) c).2) (p := (0, 0)) hu hin.1 hin.2 ⟨z1, z2⟩
  rw [mul_one, mul_one] at h
  exact h
end
theorem pairs_le {n1 n2 : Nat} {l : List (Nat × Nat)} (hd : l.Nodup) (h : ∀ x ∈ l, inD n1 n2 x) : l.length ≤ n1 * n2 := by
  have h1 : (l.map fun p => p.1 * n2 + p.2).Nodup := by
    induction l with
    | nil => exact .nil
    | cons p r ih =>
      rw [List.nodup_cons] at hd
      rw [List.map_cons, List.nodup_cons]
      refine ⟨fun hm => ?_, ih hd.2 fun x hx => h x (List.mem_cons_of_mem _ hx)⟩
      obtain ⟨q, hq, e⟩ := List.mem_map.mp hm
      obtain ⟨a1, a2⟩ := h q (List.mem_cons_of_mem _ hq)
      obtain ⟨b1, b2⟩ := h p List.mem_cons_self
      have hz : 0 < n2 := by omega
      have e1 : q.1 = p.1 := by
        have x1 : (q.1 * n2 + q.2) / n2 = q.1 := by rw [Nat.mul_comm, Nat.mul_add_div hz, Nat.div_eq_of_lt a2]; omega
        have x2 : (p.1 * n2 + p.2) / n2 = p.1 := by rw [Nat.mul_comm, Nat.mul_add_div hz, Nat.div_eq_of_lt b2]; omega
        rw [← x1, ← x2, e]
      have e2 : q.2 = p.2 := by rw [e1] at e; omega
      have : q = p := Prod.ext e1 e2
      subst this
      exact hd.1 hq
  have h2 := nodup_lt (n := n1 * n2) h1 fun x hx => by
    obtain ⟨p, hp, rfl⟩ := List.mem_map.mp hx
    obtain ⟨a1, a2⟩ := h p hp
    have : (p.1 + 1) * n2 ≤ n1 * n2 := Nat.mul_le_mul_right n2 a1
    rw [Nat.add_mul] at this
    omega
  simpa using h2
end K95
set_option autoImplicit false
set_option linter.all false
namespace K95
/-! ### all rows, the last place turning fastest -/
def rowsL (n : Nat) : Nat → List (List Nat)
  | 0 => [[]]
  | k + 1 => (rowsL n k).flatMap fun r => (List.range n).map fun i => r ++ [i]
theorem flat_len {α β : Type} {f : α → List β} {n : Nat} : ∀ {l : List α}, (∀ x ∈ l, (f x).length = n) → (l.flatMap f).length = l.length * n
  | [], _ => by simp
  | x :: r, h => by
    rw [List.flatMap_cons, List.length_append, h x List.mem_cons_self, flat_len fun y hy => h y (List.mem_cons_of_mem _ hy), List.length_cons, Nat.add_mul]
    omega
theorem rowsL_len (n : Nat) : ∀ k, (rowsL n k).length = n ^ k
  | 0 => rfl
  | k + 1 => by
    unfold rowsL
    rw [flat_len (n := n) (fun x _ => by simp), rowsL_len n k, Nat.pow_succ]
theorem rowsL_mem {n : Nat} : ∀ {k : Nat} {r : List Nat}, r ∈ rowsL n k ↔ r.length = k ∧ ∀ x ∈ r, x < n
  | 0, r => by
    unfold rowsL
    rw [List.mem_singleton]
    constructor
    · rintro rfl
      exact ⟨rfl, fun x hx => by cases hx⟩
    · rintro ⟨h, _⟩
      exact List.length_eq_zero_iff.mp h
  | k + 1, r => by
    unfold rowsL
    rw [List.mem_flatMap]
    constructor
    · rintro ⟨s, hs, hr⟩
      obtain ⟨i, hi, rfl⟩ := List.mem_map.mp hr
      obtain ⟨h1, h2⟩ := rowsL_mem.mp hs
      refine ⟨by simp [h1], fun x hx => ?_⟩
      rcases List.mem_append.mp hx with h | h
      · exact h2 x h
      · rw [List.mem_singleton.mp h]
        exact List.mem_range.mp hi
    · rintro ⟨h1, h2⟩
      induction r using snoc_ind with
      | h0 => simp at h1
      | h1 l a _ =>
        refine ⟨l, rowsL_mem.mpr ⟨by simpa using h1, fun x hx => h2 x (List.mem_append_left _ hx)⟩, List.mem_map.mpr ⟨a, List.mem_range.mpr (h2 a (by simp)), rfl⟩⟩
theorem flat_take {α β : Type} {f : α → List β} {l : List α} {i : Nat} {x : α} (h : l[i]? = some x) : (l.take (i + 1)).flatMap f = (l.take i).flatMap f ++ f x := by
  rw [List.take_succ, h]
  simp
end K95
set_option autoImplicit false
set_option linter.all false
namespace K95
/-! ### letters led to letters -/
def LedF (k : Nat) (sB sA : Nat → Nat → Nat) : Prop := ∃ f : Nat → Nat, f 0 = 0 ∧ ∀ w, Letters k w → f (w.foldl sB 0) = w.foldl sA 0
structure LedI (k : Nat) (sB sA : Nat → Nat → Nat) (kn : List (Nat × Nat)) (rest : List Nat) (y i : Nat) : Prop where
  nd : (kn.map (·.1)).Nodup
  z : (0, 0) ∈ kn
  rch : ∀ p ∈ kn, ∃ w, Letters k w ∧ w.foldl sB 0 = p.1 ∧ w.foldl sA 0 = p.2
  rn : rest.Nodup
  rs : ∀ x ∈ rest, ∃ a, (x, a) ∈ kn
  cl : ∀ p ∈ kn, p.1 ∉ rest → ∀ c, c < (if p.1 = y then i else k) → (sB p.1 c, sA p.2 c) ∈ kn
section
variable {k : Nat} {sB sA : Nat → Nat → Nat} {kn : List (Nat × Nat)} {rest : List Nat} {y i a : Nat}
theorem LedI.start (k : Nat) (sB sA : Nat → Nat → Nat) : LedI k sB sA [(0, 0)] [0] 0 k :=
  ⟨by simp, by simp, fun p hp => ⟨[], Letters.nil, by rw [List.mem_singleton.mp hp] <;> exact ⟨rfl, rfl⟩⟩, by simp, fun x hx => ⟨0, by rw [List.mem_singleton.mp hx]; simp⟩, fun p hp hn => by
    rw [List.mem_singleton.mp hp] at hn
    simp at hn⟩
theorem LedI.fun_ (L : LedI k sB sA kn rest y i) {x a b : Nat} (ha : (x, a) ∈ kn) (hb : (x, b) ∈ kn) : a = b := by
  have : ∀ {l : List (Nat × Nat)}, (l.map (·.1)).Nodup → (x, a) ∈ l → (x, b) ∈ l → a = b := by
    intro l
    induction l with
    | nil => intro _ h; cases h
    | cons p r ih =>
      intro hd h1 h2
      rw [List.map_cons, List.nodup_cons] at hd
      rcases List.mem_cons.mp h1 with e1 | h1 <;> rcases List.mem_cons.mp h2 with e2 | h2
      · rw [← e2] at e1
        exact (Prod.mk.inj e1).2
      · exact absurd (List.mem_map.mpr ⟨_, h2, by rw [← e1]⟩) hd.1
      · exact absurd (List.mem_map.mpr ⟨_, h1, by rw [← e2]⟩) hd.1
      · exact ih hd.2 h1 h2
  exact this L.nd ha hb
theorem LedI.pop {y0 : Nat} (L : LedI k sB sA kn (rest ++ [y]) y0 k) : LedI k sB sA kn rest y 0 ∧ y ∉ rest ∧ ∃ a, (y, a) ∈ kn := by
  have hn := L.rn
  rw [List.nodup_append] at hn
  have hy : y ∉ rest := fun h => hn.2.2 y h y (by simp) rfl
  refine ⟨⟨L.nd, L.z, L.rch, hn.1, fun x hx => L.rs x (List.mem_append_left _ hx), fun p hp hpr c hc => ?_⟩, hy, L.rs y (by simp)⟩
  by_cases e : p.1 = y
  · rw [if_pos e] at hc
    omega
  · rw [if_neg e] at hc
    refine L.cl p hp (fun h => ?_) c (by split <;> exact hc)
    rcases List.mem_append.mp h with h | h
    · exact hpr h
    · exact e (List.mem_singleton.mp h)
theorem LedI.old (L : LedI k sB sA kn rest y i) (hy : y ∉ rest) (ha : (y, a) ∈ kn) (h : (sB y i, sA a i) ∈ kn) : LedI k sB sA kn rest y (i + 1) := by
  refine ⟨L.nd, L.z, L.rch, L.rn, L.rs, fun p hp hpr c hc => ?_⟩
  by_cases e : p.1 = y
  · rw [if_pos e] at hc
    by_cases hci : c < i
    · exact L.cl p hp hpr c (by rw [if_pos e]; exact hci)
    · have ec : c = i := by omega
      have ep : p.2 = a := L.fun_ (x := y) (by rw [← e]; exact hp) ha
      rw [e, ep, ec]
      exact h
  · rw [if_neg e] at hc
    exact L.cl p hp hpr c (by rw [if_neg e]; exact hc)
theorem LedI.new (L : LedI k sB sA kn rest y i) (hy : y ∉ rest) (hi : i < k) (ha : (y, a) ∈ kn) (h : ∀ b, (sB y i, b) ∉ kn) : LedI k sB sA (kn ++ [(sB y i, sA a i)]) (rest ++ [sB y i]) y (i + 1) ∧ y ∉ rest ++ [sB y i] := by
  have hk : sB y i ∉ kn.map (·.1) := fun hm => by
    obtain ⟨p, hp, e⟩ := List.mem_map.mp hm
    exact h p.2 (by rw [← e]; exact hp)
  have hne : y ≠ sB y i := fun z => h a (by rw [← z]; exact ha)
  have hr : sB y i ∉ rest := fun hm => by
    obtain ⟨b, hb⟩ := L.rs _ hm
    exact h b hb
  refine ⟨⟨?_, List.mem_append_left _ L.z, fun p hp => ?_, nodup_snoc L.rn hr, fun x hx => ?_, fun p hp hpr c hc => ?_⟩, fun hm => ?_⟩
  · rw [List.map_append]
    exact nodup_snoc L.nd hk
  · rcases List.mem_append.mp hp with hp | hp
    · exact L.rch p hp
    · rw [List.mem_singleton.mp hp]
      obtain ⟨w, h1, h2, h3⟩ := L.rch _ ha
      exact ⟨w ++ [i], Letters.app h1 (Letters.one hi), by rw [List.foldl_append, h2] <;> rfl, by rw [List.foldl_append, h3] <;> rfl⟩
  · rcases List.mem_append.mp hx with hx | hx
    · obtain ⟨b, hb⟩ := L.rs x hx
      exact ⟨b, List.mem_append_left _ hb⟩
    · rw [List.mem_singleton.mp hx]
      exact ⟨sA a i, List.mem_append_right _ (by simp)⟩
  · rcases List.mem_append.mp hp with hp | hp
    · have hpr' : p.1 ∉ rest := fun z => hpr (List.mem_append_left _ z)
      by_cases e : p.1 = y
      · rw [if_pos e] at hc
        by_cases hci : c < i
        · exact List.mem_append_left _ (L.cl p hp hpr' c (by rw [if_pos e]; exact hci))
        · have ec : c = i := by omega
          have ep : p.2 = a := L.fun_ (x := y) (by rw [← e]; exact hp) ha
          rw [e, ep, ec]
          exact List.mem_append_right _ (by simp)
      · rw [if_neg e] at hc
        exact List.mem_append_left _ (L.cl p hp hpr' c (by rw [if_neg e]; exact hc))
    · rw [List.mem_singleton.mp hp] at hpr
      exact absurd (List.mem_append_right _ (by simp)) hpr
  · rcases List.mem_append.mp hm with hm | hm
    · exact hy hm
    · exact hne (List.mem_singleton.mp hm)
theorem LedI.bad {b : Nat} (L : LedI k sB sA kn rest y i) (hi : i < k) (ha : (y, a) ∈ kn) (hb : (sB y i, b) ∈ kn) (hne : b ≠ sA a i) : ¬ LedF k sB sA := by
  rintro ⟨f, f0, hf⟩
  obtain ⟨w, h1, h2, h3⟩ := L.rch _ ha
  obtain ⟨u, g1, g2, g3⟩ := L.rch _ hb
  have e1 := hf (w ++ [i]) (Letters.app h1 (Letters.one hi))
  have e2 := hf u g1
  rw [List.foldl_append, List.foldl_append, h2, h3] at e1
  rw [g2, g3] at e2
  have e3 : f (sB y i) = sA a i := e1
  have e4 : f (sB y i) = b := e2
  exact hne (e4.symm.trans e3)
theorem LedI.done (L : LedI k sB sA kn [] y k) : LedF k sB sA := by
  refine ⟨fun x => match kn.find? (fun p => decide (p.1 = x)) with
    | some p => p.2
    | none => 0, ?_, ?_⟩
  all_goals
    have key : ∀ x a, (x, a) ∈ kn → (match kn.find? (fun p => decide (p.1 = x)) with
      | some p => p.2
      | none => 0) = a := by
      intro x a h
      cases e : kn.find? (fun p => decide (p.1 = x)) with
      | none =>
        rw [List.find?_eq_none] at e
        exact absurd (decide_eq_true rfl) (e (x, a) h)
      | some p =>
        have h1 := List.mem_of_find?_eq_some e
        have h2 := List.find?_some e
        have h3 : p.1 = x := of_decide_eq_true h2
        exact L.fun_ (x := x) (by rw [← h3]; exact h1) h
  · exact key 0 0 L.z
  · intro w hw
    have : (w.foldl sB 0, w.foldl sA 0) ∈ kn := by
      have gen : ∀ (w : List Nat) (x a : Nat), Letters k w → (x, a) ∈ kn → (w.foldl sB x, w.foldl sA a) ∈ kn := by
        intro w
        induction w with
        | nil => intro x a _ h; exact h
        | cons c u ih =>
          intro x a hu h
          exact ih _ _ hu.tail (L.cl (x, a) h (by simp) c (by split <;> exact hu.head))
      exact gen w 0 0 hw L.z
    exact key _ _ this
end
/-- a row of numbers of B leads to A -/
def LedRow (A B : Tab) (nums : List Nat) : Prop := LedF nums.length (nxM B nums) (step A)
noncomputable def ledB (A B : Tab) (nums : List Nat) : Bool := @decide (LedRow A B nums) (Classical.propDecidable _)
theorem ledB_true {A B : Tab} {nums : List Nat} (h : LedRow A B nums) : ledB A B nums = true := by
  unfold ledB
  exact @decide_eq_true _ (Classical.propDecidable _) h
theorem ledB_false {A B : Tab} {nums : List Nat} (h : ¬ LedRow A B nums) : ledB A B nums = false := by
  unfold ledB
  exact @decide_eq_false _ (Classical.propDecidable _) h
theorem ledB_iff {A B : Tab} {nums : List Nat} : ledB A B nums = true ↔ LedRow A B nums := by
  constructor
  · intro h
    by_cases hl : LedRow A B nums
    · exact hl
    · rw [ledB_false hl] at h
      cases h
  · exact ledB_true
end K95
set_option autoImplicit false
set_option linter.all false
namespace K95
/-! ### roots -/
def at_ (r : List Nat) (i : Nat) : Nat := r.getD i 0
/-- the root above i -/
def rt (r : List Nat) (i : Nat) : Nat := if h : at_ r i < i then rt r (at_ r i) else i
termination_by i
structure UF (r : List Nat) (n : Nat) : Prop where
  len : r.length = n
  le : ∀ i, i < n → at_ r i ≤ i
theorem rt_le (r : List Nat) (i : Nat) : rt r i ≤ i := by
  induction i using Nat.strongRecOn with
  | _ i ih =>
    unfold rt
    split
    · rename_i h
      exact Nat.le_trans (ih _ h) (Nat.le_of_lt h)
    · exact Nat.le_refl _
theorem rt_fix {r : List Nat} {n i : Nat} (U : UF r n) (hi : i < n) (h : at_ r i = i) : rt r i = i := by
  unfold rt
  rw [dif_neg (by omega)]
theorem rt_step {r : List Nat} {n i : Nat} (U : UF r n) (hi : i < n) : rt r i = rt r (at_ r i) := by
  by_cases h : at_ r i < i
  · conv => lhs; unfold rt
    rw [dif_pos h]
  · have := U.le i hi
    have e : at_ r i = i := by omega
    rw [e]
theorem rt_root {r : List Nat} {n i : Nat} (U : UF r n) (hi : i < n) : at_ r (rt r i) = rt r i := by
  induction i using Nat.strongRecOn with
  | _ i ih =>
    by_cases h : at_ r i < i
    · rw [rt_step U hi]
      exact ih _ h (by omega)
    · have := U.le i hi
      have e : at_ r i = i := by omega
      rw [rt_fix U hi e]
      exact e
theorem rt_idem {r : List Nat} {n i : Nat} (U : UF r n) (hi : i < n) : rt r (rt r i) = rt r i := rt_fix U (by have := rt_le r i; omega) (rt_root U hi)
theorem at_set {r : List Nat} {i j v : Nat} : at_ (r.set i v) j = if i = j ∧ i < r.length then v else at_ r j := by
  unfold at_
  rw [List.getD_eq_getElem?_getD, List.getD_eq_getElem?_getD, List.getElem?_set]
  by_cases h : i = j
  · subst h
    by_cases hl : i < r.length
    · simp [hl]
    · simp [hl]
  · simp [h]
/-- a node is hung higher, under a node of its own way up -/
theorem UF.half {r : List Nat} {n i v : Nat} (U : UF r n) (hi : i < n) (hv : v < i) (hr : rt r v = rt r i) : UF (r.set i v) n ∧ ∀ j, j < n → rt (r.set i v) j = rt r j := by
  have hlen := U.len
  have U' : UF (r.set i v) n := by
    refine ⟨by simp [hlen], fun j hj => ?_⟩
    rw [at_set]
    split
    · rename_i h
      omega
    · exact U.le j hj
  refine ⟨U', fun j => ?_⟩
  induction j using Nat.strongRecOn with
  | _ j ih =>
    intro hj
    by_cases e : i = j
    · subst e
      have ea : at_ (r.set i v) i = v := by rw [at_set, if_pos ⟨rfl, by omega⟩]
      rw [rt_step U' hj, ea, ih v hv (by omega), hr]
    · have ea : at_ (r.set i v) j = at_ r j := by rw [at_set, if_neg (fun z => e z.1)]
      by_cases h : at_ r j < j
      · rw [rt_step U' hj, ea, ih _ h (by omega), ← rt_step U hj]
      · have := U.le j hj
        have ej : at_ r j = j := by omega
        rw [rt_fix U' hj (by rw [ea, ej]), rt_fix U hj ej]
/-- a root is hung under a lesser root -/
theorem UF.join {r : List Nat} {n hi lo : Nat} (U : UF r n) (h1 : hi < n) (h2 : lo < hi) (r1 : at_ r hi = hi) (r2 : at_ r lo = lo) : UF (r.set hi lo) n ∧ ∀ j, j < n → rt (r.set hi lo) j = if rt r j = hi then lo else rt r j := by
  have hlen := U.len
  have U' : UF (r.set hi lo) n := by
    refine ⟨by simp [hlen], fun j hj => ?_⟩
    rw [at_set]
    split
    · rename_i h
      omega
    · exact U.le j hj
  refine ⟨U', fun j => ?_⟩
  induction j using Nat.strongRecOn with
  | _ j ih =>
    intro hj
    by_cases e : hi = j
    · subst e
      have ea : at_ (r.set hi lo) hi = lo := by rw [at_set, if_pos ⟨rfl, by omega⟩]
      have el : at_ (r.set hi lo) lo = lo := by rw [at_set, if_neg (fun z => by omega)]; exact r2
      rw [rt_step U' hj, ea, rt_fix U' (by omega) el, rt_fix U hj r1, if_pos rfl]
    · have ea : at_ (r.set hi lo) j = at_ r j := by rw [at_set, if_neg (fun z => e z.1)]
      by_cases h : at_ r j < j
      · rw [rt_step U' hj, ea, ih _ h (by omega), ← rt_step U hj]
      · have := U.le j hj
        have ej : at_ r j = j := by omega
        rw [rt_fix U' hj (by rw [ea, ej]), rt_fix U hj ej, if_neg (fun z => e z.symm)]
/-- how many roots -/
def nroots (r : List Nat) (n : Nat) : Nat := ((List.range n).filter fun i => decide (rt r i = i)).length
theorem UF.join_roots {r : List Nat} {n hi lo : Nat} (U : UF r n) (h1 : hi < n) (h2 : lo < hi) (r1 : at_ r hi = hi) (r2 : at_ r lo = lo) : nroots (r.set hi lo) n < nroots r n := by
  obtain ⟨_, h⟩ := U.join h1 h2 r1 r2
  unfold nroots
  have sub : ∀ l : List Nat, (∀ x ∈ l, x < n) → (l.filter fun i => decide (rt (r.set hi lo) i = i)).length ≤ (l.filter fun i => decide (rt r i = i)).length ∧ (hi ∈ l → (l.filter fun i => decide (rt (r.set hi lo) i = i)).length < (l.filter fun i => decide (rt r i = i)).length) := by
    intro l
    induction l with
    | nil => intro _; exact ⟨Nat.le_refl _, fun z => by cases z⟩
    | cons x t ih =>
      intro hl
      obtain ⟨i1, i2⟩ := ih fun y hy => hl y (List.mem_cons_of_mem _ hy)
      have hx := hl x List.mem_cons_self
      by_cases e : x = hi
      · subst e
        have a1 : ¬ rt (r.set x lo) x = x := by
          rw [h x hx, if_pos (rt_fix U hx r1)]
          omega
        have a2 : rt r x = x := rt_fix U hx r1
        rw [List.filter_cons, List.filter_cons, if_neg (by simpa using a1), if_pos (by simpa using a2)]
        simp only [List.length_cons]
        exact ⟨by omega, fun _ => by omega⟩
      · by_cases b : rt (r.set hi lo) x = x
        · have a2 : rt r x = x := by
            rw [h x hx] at b
            by_cases c : rt r x = hi
            · rw [if_pos c] at b
              subst b
              have := rt_fix U hx r2
              omega
            · rw [if_neg c] at b
              exact b
          rw [List.filter_cons, List.filter_cons, if_pos (by simpa using b), if_pos (by simpa using a2)]
          simp only [List.length_cons]
          refine ⟨by omega, fun hm => ?_⟩
          rcases List.mem_cons.mp hm with z | hm
          · exact absurd z.symm e
          · have := i2 hm
            omega
        · rw [List.filter_cons, if_neg (by simpa using b), List.filter_cons]
          split
          · simp only [List.length_cons]
            refine ⟨by omega, fun hm => by omega⟩
          · refine ⟨i1, fun hm => ?_⟩
            rcases List.mem_cons.mp hm with z | hm
            · exact absurd z.symm e
            · exact i2 hm
  exact (sub (List.range n) fun x hx => List.mem_range.mp hx).2 (List.mem_range.mpr h1)
theorem nroots_le (r : List Nat) (n : Nat) : nroots r n ≤ n := by
  unfold nroots
  exact Nat.le_trans (List.length_filter_le _ _) (by simp)
/-- all apart -/
theorem UF.range (n : Nat) : UF (List.range n) n ∧ ∀ i, i < n → rt (List.range n) i = i := by
  have ha : ∀ i, i < n → at_ (List.range n) i = i := fun i hi => by
    unfold at_
    rw [List.getD_eq_getElem?_getD, List.getElem?_range hi] <;> rfl
  have U : UF (List.range n) n := ⟨by simp, fun i hi => by rw [ha i hi]; exact Nat.le_refl _⟩
  exact ⟨U, fun i hi => rt_fix U hi (ha i hi)⟩
/-- one class of both -/
theorem UF.eqv {r r' : List Nat} {n hi lo x y : Nat} (h : ∀ j, j < n → rt r' j = if rt r j = hi then lo else rt r j) (hx : x < n) (hy : y < n) : rt r' x = rt r' y ↔ rt r x = rt r y ∨ ((rt r x = hi ∨ rt r x = lo) ∧ (rt r y = hi ∨ rt r y = lo)) := by
  rw [h x hx, h y hy]
  by_cases a : rt r x = hi
  · by_cases b : rt r y = hi
    · rw [if_pos a, if_pos b]
      exact ⟨fun _ => .inl (a.trans b.symm), fun _ => rfl⟩
    · rw [if_pos a, if_neg b]
      exact ⟨fun z => .inr ⟨.inl a, .inr z.symm⟩, fun z => z.elim (fun e => absurd (e.symm.trans a) b) fun e => e.2.elim (fun q => absurd q b) fun q => q.symm⟩
  · by_cases b : rt r y = hi
    · rw [if_neg a, if_pos b]
      exact ⟨fun z => .inr ⟨.inr z, .inl b⟩, fun z => z.elim (fun e => absurd (e.trans b) a) fun e => e.1.elim (fun q => absurd q a) fun q => q⟩
    · rw [if_neg a, if_neg b]
      exact ⟨fun z => .inl z, fun z => z.elim (fun e => e) fun e => (e.1.resolve_left a).trans (e.2.resolve_left b).symm⟩
theorem UF.eqv2 {r r' : List Nat} {n a b x y : Nat} (h : ∀ j, j < n → rt r' j = if rt r j = max a b then min a b else rt r j) (hx : x < n) (hy : y < n) : rt r' x = rt r' y ↔ rt r x = rt r y ∨ ((rt r x = a ∨ rt r x = b) ∧ (rt r y = a ∨ rt r y = b)) := by
  rw [UF.eqv h hx hy]
  have e : ∀ z, (z = max a b ∨ z = min a b) ↔ (z = a ∨ z = b) := fun z => by
    rcases Nat.le_total a b with q | q
    · rw [Nat.max_eq_right q, Nat.min_eq_left q]
      exact Or.comm
    · rw [Nat.max_eq_left q, Nat.min_eq_right q]
  rw [e, e]
end K95
set_option autoImplicit false
set_option linter.all false
namespace K95
/-! ### congruences by their least members -/
structure CongT (S : Tab) (n w : Nat) (ρ : List Nat) : Prop where
  len : ρ.length = n
  rep : ∀ i, i < n → at_ ρ i ≤ i ∧ at_ ρ (at_ ρ i) = at_ ρ i
  cl : ∀ x y, x < n → y < n → at_ ρ x = at_ ρ y → ∀ j, j < w → at_ ρ (step S x j) = at_ ρ (step S y j)
/-- relations that the steps keep -/
structure ClE (S : Tab) (n w : Nat) (E : Nat → Nat → Prop) : Prop where
  eq : Equivalence E
  cl : ∀ x y, x < n → y < n → E x y → ∀ j, j < w → E (step S x j) (step S y j)
structure SForm (S : Tab) (n w : Nat) : Prop where
  len : S.length = n
  row : ∀ (x : Nat) (r : List Nat), S[x]? = some r → r.length = w
  ent : ∀ x j, x < n → j < w → step S x j < n
structure ClI (S : Tab) (n w : Nat) (P0 : List (Nat × Nat)) (r : List Nat) (rest : List (Nat × Nat)) : Prop where
  uf : UF r n
  rb : ∀ p ∈ rest, p.1 < n ∧ p.2 < n
  sound : ∀ E, ClE S n w E → (∀ p ∈ P0, E p.1 p.2) → (∀ x y, x < n → y < n → rt r x = rt r y → E x y) ∧ ∀ p ∈ rest, E p.1 p.2
  gen : ∃ G : List (Nat × Nat), (∀ p ∈ G, p.1 < n ∧ p.2 < n) ∧ (∀ E : Nat → Nat → Prop, Equivalence E → (∀ p ∈ G, E p.1 p.2) → ∀ x y, x < n → y < n → rt r x = rt r y → E x y) ∧
    ∀ p ∈ G, ∀ j, j < w → (step S p.1 j, step S p.2 j) ∈ rest ∨ rt r (step S p.1 j) = rt r (step S p.2 j)
  cov : ∀ p ∈ P0, p ∈ rest ∨ rt r p.1 = rt r p.2
section
variable {S : Tab} {n w : Nat} {P0 : List (Nat × Nat)} {r r' : List Nat} {rest : List (Nat × Nat)}
theorem ClI.start (h : ∀ p ∈ P0, p.1 < n ∧ p.2 < n) : ClI S n w P0 (List.range n) P0 := by
  obtain ⟨U, hr⟩ := UF.range n
  refine ⟨U, h, fun E hE hp => ⟨fun x y hx hy e => ?_, hp⟩, ⟨[], (fun p hp => absurd hp List.not_mem_nil), fun E hE _ x y hx hy e => ?_, (fun p hp => absurd hp List.not_mem_nil)⟩, fun p hp => .inl hp⟩
  · rw [hr x hx, hr y hy] at e
    rw [e]
    exact hE.eq.refl y
  · rw [hr x hx, hr y hy] at e
    rw [e]
    exact hE.refl y
theorem ClI.same {p : Nat × Nat} (I : ClI S n w P0 r (rest ++ [p])) (U : UF r' n) (hs : ∀ j, j < n → rt r' j = rt r j) (e : rt r p.1 = rt r p.2) (F : SForm S n w) (hP : ∀ p ∈ P0, p.1 < n ∧ p.2 < n) : ClI S n w P0 r' rest := by
  refine ⟨U, fun q hq => I.rb q (List.mem_append_left _ hq), fun E hE hp => ?_, ?_, fun q hq => ?_⟩
  · obtain ⟨h1, h2⟩ := I.sound E hE hp
    refine ⟨fun x y hx hy z => h1 x y hx hy (by rw [← hs x hx, ← hs y hy]; exact z), fun q hq => h2 q (List.mem_append_left _ hq)⟩
  · obtain ⟨G, g1, g2, g3⟩ := I.gen
    refine ⟨G, g1, fun E hE hG x y hx hy z => g2 E hE hG x y hx hy (by rw [← hs x hx, ← hs y hy]; exact z), fun q hq j hj => ?_⟩
    obtain ⟨b1, b2⟩ := g1 q hq
    have c1 := F.ent q.1 j b1 hj
    have c2 := F.ent q.2 j b2 hj
    rw [hs _ c1, hs _ c2]
    rcases g3 q hq j hj with h | h
    · rcases List.mem_append.mp h with h | h
      · exact .inl h
      · have := List.mem_singleton.mp h
        right
        rw [← this] at e
        exact e
    · exact .inr h
  · obtain ⟨b1, b2⟩ := hP q hq
    rw [hs _ b1, hs _ b2]
    rcases I.cov q hq with h | h
    · rcases List.mem_append.mp h with h | h
      · exact .inl h
      · right
        rw [List.mem_singleton.mp h]
        exact e
    · exact .inr h
theorem ClI.join {p : Nat × Nat} (I : ClI S n w P0 r (rest ++ [p])) (U : UF r' n) (hj : ∀ x y, x < n → y < n → (rt r' x = rt r' y ↔ rt r x = rt r y ∨ ((rt r x = rt r p.1 ∨ rt r x = rt r p.2) ∧ (rt r y = rt r p.1 ∨ rt r y = rt r p.2))))
    (F : SForm S n w) (hP : ∀ p ∈ P0, p.1 < n ∧ p.2 < n) : ClI S n w P0 r' (rest ++ (List.range w).map fun j => (step S p.1 j, step S p.2 j)) := by
  obtain ⟨p1, p2⟩ := I.rb p (by simp)
  have old : ∀ x y, x < n → y < n → rt r x = rt r y → rt r' x = rt r' y := fun x y hx hy e => (hj x y hx hy).mpr (.inl e)
  have pp : rt r' p.1 = rt r' p.2 := (hj _ _ p1 p2).mpr (.inr ⟨.inl rfl, .inr rfl⟩)
  have ext : ∀ E : Nat → Nat → Prop, Equivalence E → (∀ x y, x < n → y < n → rt r x = rt r y → E x y) → E p.1 p.2 → ∀ x y, x < n → y < n → rt r' x = rt r' y → E x y := by
    intro E hE h1 hp x y hx hy e
    rcases (hj x y hx hy).mp e with e | ⟨a, b⟩
    · exact h1 x y hx hy e
    · have ex : E x p.1 := a.elim (fun z => h1 x p.1 hx p1 z) fun z => hE.trans (h1 x p.2 hx p2 z) (hE.symm hp)
      have ey : E y p.1 := b.elim (fun z => h1 y p.1 hy p1 z) fun z => hE.trans (h1 y p.2 hy p2 z) (hE.symm hp)
      exact hE.trans ex (hE.symm ey)
  refine ⟨U, fun q hq => ?_, fun E hE hp => ?_, ?_, fun q hq => ?_⟩
  · rcases List.mem_append.mp hq with h | h
    · exact I.rb q (List.mem_append_left _ h)
    · obtain ⟨j, hj', rfl⟩ := List.mem_map.mp h
      exact ⟨F.ent _ _ p1 (List.mem_range.mp hj'), F.ent _ _ p2 (List.mem_range.mp hj')⟩
  · obtain ⟨h1, h2⟩ := I.sound E hE hp
    have hpp := h2 p (by simp)
    refine ⟨ext E hE.eq h1 hpp, fun q hq => ?_⟩
    rcases List.mem_append.mp hq with h | h
    · exact h2 q (List.mem_append_left _ h)
    · obtain ⟨j, hj', rfl⟩ := List.mem_map.mp h
      exact hE.cl _ _ p1 p2 hpp j (List.mem_range.mp hj')
  · obtain ⟨G, g1, g2, g3⟩ := I.gen
    refine ⟨G ++ [p], fun q hq => ?_, fun E hE hG => ?_, fun q hq j hj' => ?_⟩
    · rcases List.mem_append.mp hq with h | h
      · exact g1 q h
      · rw [List.mem_singleton.mp h]
        exact ⟨p1, p2⟩
    · exact ext E hE (g2 E hE fun q hq => hG q (List.mem_append_left _ hq)) (hG p (by simp))
    · rcases List.mem_append.mp hq with h | h
      · obtain ⟨b1, b2⟩ := g1 q h
        rcases g3 q h j hj' with h | h
        · rcases List.mem_append.mp h with h | h
          · exact .inl (List.mem_append_left _ h)
          · right
            have := List.mem_singleton.mp h
            have e1 := congrArg Prod.fst this
            have e2 := congrArg Prod.snd this
            simp at e1 e2
            rw [e1, e2]
            exact pp
        · exact .inr (old _ _ (F.ent _ _ b1 hj') (F.ent _ _ b2 hj') h)
      · rw [List.mem_singleton.mp h]
        exact .inl (List.mem_append_right _ (List.mem_map.mpr ⟨j, List.mem_range.mpr hj', rfl⟩))
  · obtain ⟨b1, b2⟩ := hP q hq
    rcases I.cov q hq with h | h
    · rcases List.mem_append.mp h with h | h
      · exact .inl (List.mem_append_left _ h)
      · right
        rw [List.mem_singleton.mp h]
        exact pp
    · exact .inr (old _ _ b1 b2 h)
theorem cls_at {i : Nat} (hi : i < n) : at_ ((List.range n).map (rt r)) i = rt r i := by
  unfold at_
  rw [List.getD_eq_getElem?_getD, List.getElem?_map, List.getElem?_range hi] <;> rfl
theorem ClI.done (I : ClI S n w P0 r []) (F : SForm S n w) : CongT S n w ((List.range n).map (rt r)) := by
  refine ⟨by simp, fun i hi => ?_, fun x y hx hy e j hj => ?_⟩
  · rw [cls_at hi]
    have := rt_le r i
    rw [cls_at (by omega)]
    exact ⟨this, rt_idem I.uf hi⟩
  · rw [cls_at hx, cls_at hy] at e
    rw [cls_at (F.ent _ _ hx hj), cls_at (F.ent _ _ hy hj)]
    obtain ⟨G, g1, g2, g3⟩ := I.gen
    have := g2 (fun x y => ∀ j, j < w → rt r (step S x j) = rt r (step S y j)) ⟨fun _ _ _ => rfl, fun h j hj => (h j hj).symm, fun h h' j hj => (h j hj).trans (h' j hj)⟩ (fun p hp j hj => by
      rcases g3 p hp j hj with h | h
      · cases h
      · exact h) x y hx hy e
    exact this j hj
theorem ClI.least (I : ClI S n w P0 r []) {E : Nat → Nat → Prop} (hE : ClE S n w E) (hp : ∀ p ∈ P0, E p.1 p.2) {x y : Nat} (hx : x < n) (hy : y < n) (e : at_ ((List.range n).map (rt r)) x = at_ ((List.range n).map (rt r)) y) : E x y := by
  rw [cls_at hx, cls_at hy] at e
  exact (I.sound E hE hp).1 x y hx hy e
theorem ClI.pairs (I : ClI S n w P0 r []) (hP : ∀ p ∈ P0, p.1 < n ∧ p.2 < n) : ∀ p ∈ P0, at_ ((List.range n).map (rt r)) p.1 = at_ ((List.range n).map (rt r)) p.2 := fun p hp => by
  obtain ⟨b1, b2⟩ := hP p hp
  rw [cls_at b1, cls_at b2]
  exact (I.cov p hp).resolve_left (by simp)
end
/-- the steps of a monoid: behind each letter, ahead of each letter -/
def stepsOf (T : Tab) : Tab := (List.range T.length).map fun x => T.getD x [] ++ (leftsOf T).getD x []
theorem stepsOf_row {T : Tab} {n k x : Nat} (G : Good T n k) (hx : x < n) : (stepsOf T)[x]? = some (T.getD x [] ++ (leftsOf T).getD x []) := by
  unfold stepsOf
  rw [List.getElem?_map, List.getElem?_range (by rw [G.form.len]; exact hx)] <;> rfl
theorem stepsOf_at {T : Tab} {n k x j : Nat} (G : Good T n k) (hx : x < n) (hj : j < 2 * k) : step (stepsOf T) x j = if j < k then step T x j else mul T (step T 0 (j - k)) x := by
  have h1 := G.ordd.row_eq hx
  have h2 := G.ordd.left_eq hx
  have h3 : (stepsOf T).getD x [] = T.getD x [] ++ (leftsOf T).getD x [] := by
    rw [List.getD_eq_getElem?_getD, stepsOf_row G hx] <;> rfl
  unfold step at *
  rw [h3, List.getD_eq_getElem?_getD]
  by_cases hk : j < k
  · rw [if_pos hk, List.getElem?_append_left (by rw [h1]; simpa using hk), ← List.getD_eq_getElem?_getD]
  · rw [if_neg hk, List.getElem?_append_right (by rw [h1]; simp; omega), h2]
    have hl : (T.getD x []).length = k := by rw [h1]; simp
    rw [hl, List.getElem?_map, List.getElem?_range (by omega)]
    rfl
theorem stepsOf_form {T : Tab} {n k : Nat} (G : Good T n k) : SForm (stepsOf T) n (2 * k) := by
  refine ⟨by unfold stepsOf; simp [G.form.len], fun x r hr => ?_, fun x j hx hj => ?_⟩
  · have hx : x < n := by
      have := (List.getElem?_eq_some_iff.mp hr).1
      unfold stepsOf at this
      simpa [G.form.len] using this
    rw [stepsOf_row G hx] at hr
    cases hr
    rw [G.ordd.row_eq hx, G.ordd.left_eq hx]
    simp
    omega
  · rw [stepsOf_at G hx hj]
    split
    · rename_i h
      exact G.form.step_lt hx h
    · exact G.mul_lt (G.form.step_lt G.form.n1 (by omega)) hx
end K95
set_option autoImplicit false
set_option linter.all false
namespace K95
/-! ### joins of classes -/
structure JI (n : Nat) (J : List (Nat × Nat)) (r : List Nat) : Prop where
  uf : UF r n
  on : ∀ p ∈ J, rt r p.1 = rt r p.2
  least : ∀ E : Nat → Nat → Prop, Equivalence E → (∀ p ∈ J, E p.1 p.2) → ∀ x y, x < n → y < n → rt r x = rt r y → E x y
theorem JI.start (n : Nat) : JI n [] (List.range n) := by
  obtain ⟨U, h⟩ := UF.range n
  refine ⟨U, fun p hp => absurd hp List.not_mem_nil, fun E hE _ x y hx hy e => ?_⟩
  rw [h x hx, h y hy] at e
  rw [e]
  exact hE.refl y
theorem JI.same {n : Nat} {J : List (Nat × Nat)} {r r' : List Nat} {p : Nat × Nat} (I : JI n J r) (U : UF r' n) (hs : ∀ j, j < n → rt r' j = rt r j) (e : rt r p.1 = rt r p.2) (hJ : ∀ q ∈ J ++ [p], q.1 < n ∧ q.2 < n) : JI n (J ++ [p]) r' := by
  refine ⟨U, fun q hq => ?_, fun E hE h x y hx hy z => I.least E hE (fun q hq => h q (List.mem_append_left _ hq)) x y hx hy (by rw [← hs x hx, ← hs y hy]; exact z)⟩
  obtain ⟨b1, b2⟩ := hJ q hq
  rw [hs _ b1, hs _ b2]
  rcases List.mem_append.mp hq with h | h
  · exact I.on q h
  · rw [List.mem_singleton.mp h]
    exact e
theorem JI.join {n : Nat} {J : List (Nat × Nat)} {r r' : List Nat} {p : Nat × Nat} (I : JI n J r) (U : UF r' n) (hj : ∀ x y, x < n → y < n → (rt r' x = rt r' y ↔ rt r x = rt r y ∨ ((rt r x = rt r p.1 ∨ rt r x = rt r p.2) ∧ (rt r y = rt r p.1 ∨ rt r y = rt r p.2)))) (hJ : ∀ q ∈ J ++ [p], q.1 < n ∧ q.2 < n) : JI n (J ++ [p]) r' := by
  obtain ⟨p1, p2⟩ := hJ p (by simp)
  refine ⟨U, fun q hq => ?_, fun E hE h x y hx hy e => ?_⟩
  · obtain ⟨b1, b2⟩ := hJ q hq
    rcases List.mem_append.mp hq with h | h
    · exact (hj _ _ b1 b2).mpr (.inl (I.on q h))
    · rw [List.mem_singleton.mp h]
      exact (hj _ _ p1 p2).mpr (.inr ⟨.inl rfl, .inr rfl⟩)
  · have h1 := I.least E hE fun q hq => h q (List.mem_append_left _ hq)
    have hp : E p.1 p.2 := h p (by simp)
    rcases (hj x y hx hy).mp e with e | ⟨a, b⟩
    · exact h1 x y hx hy e
    · have ex : E x p.1 := a.elim (fun z => h1 x p.1 hx p1 z) fun z => hE.trans (h1 x p.2 hx p2 z) (hE.symm hp)
      have ey : E y p.1 := b.elim (fun z => h1 y p.1 hy p1 z) fun z => hE.trans (h1 y p.2 hy p2 z) (hE.symm hp)
      exact hE.trans ex (hE.symm ey)
def prs (l : List Nat) : List (Nat × Nat) := l.mapIdx fun i x => (i, x)
theorem prs_snoc (l : List Nat) (x : Nat) : prs (l ++ [x]) = prs l ++ [(l.length, x)] := by
  unfold prs
  rw [List.mapIdx_append] <;> simp
theorem prs_mem {l : List Nat} {p : Nat × Nat} (h : p ∈ prs l) : l[p.1]? = some p.2 := by
  unfold prs at h
  rw [List.mem_mapIdx] at h
  obtain ⟨i, hi, e⟩ := h
  subst e
  exact List.getElem?_eq_getElem hi
theorem prs_of {l : List Nat} {i x : Nat} (h : l[i]? = some x) : (i, x) ∈ prs l := by
  unfold prs
  rw [List.mem_mapIdx]
  obtain ⟨hi, e⟩ := List.getElem?_eq_some_iff.mp h
  exact ⟨i, hi, by rw [e]⟩
end K95
set_option autoImplicit false
set_option linter.all false
namespace K95
/-! ### quotients -/
def nxQ (T : Tab) (ρ : List Nat) (x c : Nat) : Nat := at_ ρ (step T x c)
section
variable {T : Tab} {n k : Nat} {ρ : List Nat} (G : Good T n k) (C : CongT (stepsOf T) n (2 * k) ρ)
include G C
theorem cong_right {x y c : Nat} (hx : x < n) (hy : y < n) (e : at_ ρ x = at_ ρ y) (hc : c < k) : at_ ρ (step T x c) = at_ ρ (step T y c) := by
  have := C.cl x y hx hy e c (by omega)
  rw [stepsOf_at G hx (by omega), stepsOf_at G hy (by omega), if_pos hc, if_pos hc] at this
  exact this
theorem cong_left {x y c : Nat} (hx : x < n) (hy : y < n) (e : at_ ρ x = at_ ρ y) (hc : c < k) : at_ ρ (mul T (step T 0 c) x) = at_ ρ (mul T (step T 0 c) y) := by
  have := C.cl x y hx hy e (k + c) (by omega)
  rw [stepsOf_at G hx (by omega), stepsOf_at G hy (by omega), if_neg (by omega), if_neg (by omega), Nat.add_sub_cancel_left] at this
  exact this
theorem cls_lt {x : Nat} (hx : x < n) : at_ ρ x < n := by
  have := (C.rep x hx).1
  omega
theorem cls_idem {x : Nat} (hx : x < n) : at_ ρ (at_ ρ x) = at_ ρ x := (C.rep x hx).2
theorem foldl_nxQ : ∀ (u : List Nat) {x y : Nat}, Letters k u → x < n → y < n → at_ ρ x = x → at_ ρ y = x → u.foldl (nxQ T ρ) x = at_ ρ (run T y u)
  | [], x, y, _, _, _, _, e => e.symm
  | c :: u, x, y, hu, hx, hy, ex, e => by
    rw [List.foldl_cons, run_cons]
    have h1 := G.form.step_lt hx hu.head
    have h2 := G.form.step_lt hy hu.head
    have h3 : at_ ρ (step T y c) = nxQ T ρ x c := cong_right G C hy hx (e.trans ex.symm) hu.head
    exact foldl_nxQ u hu.tail (cls_lt G C h1) h2 (cls_idem G C h1) h3
theorem nxQ_val {u : List Nat} (hu : Letters k u) : u.foldl (nxQ T ρ) 0 = at_ ρ (val T u) := by
  have h0 : at_ ρ 0 = 0 := by
    have := (C.rep 0 G.form.n1).1
    omega
  exact foldl_nxQ G C u hu G.form.n1 G.form.n1 h0 h0
theorem quot_good {found : List Nat} {rows : Tab} (B : Bfs (nxQ T ρ) k 0 found rows) (hl : rows.length = found.length) : Good rows found.length k ∧ found.length ≤ n ∧ ∀ x ∈ found, x < n := by
  have hlt : ∀ x ∈ found, x < n := fun x hx => by
    obtain ⟨w, hw, rfl⟩ := B.rch x hx
    rw [nxQ_val G C hw]
    exact cls_lt G C (G.form.run_lt G.form.n1 hw)
  have hle := nodup_lt B.nd hlt
  have h2 := G.form.n2
  refine ⟨B.good hl (by omega) G.form.k1 G.form.k2 ⟨fun c x => at_ ρ (mul T (step T 0 c) x), fun c u hc hu => ?_⟩, hle, hlt⟩
  have hv := G.form.run_lt G.form.n1 hu
  rw [nxQ_val G C hu, nxQ_val G C (Letters.cons hc hu)]
  have e1 : val T (c :: u) = mul T (step T 0 c) (val T u) := by
    show run T 0 (c :: u) = _
    rw [run_cons]
    exact G.run_eq (G.form.step_lt G.form.n1 hc) hu
  rw [e1]
  exact cong_left G C hv (cls_lt G C hv) (cls_idem G C hv).symm hc
end
end K95
set_option autoImplicit false
set_option linter.all false
namespace K95
/-! ### images along the words -/
theorem pathsFrom_at : ∀ (tr : List (Nat × Nat)) (acc : List (List Nat)) (i : Nat), acc.length = i + 1 → (∀ (j a c : Nat), tr[j]? = some (a, c) → a ≤ i + j) → ∀ (j a c : Nat), tr[j]? = some (a, c) → (pathsFrom tr acc)[i + 1 + j]? = some ((pathsFrom tr acc).getD a [] ++ [c])
  | [], _, _, _, _, j, a, c, h => by simp at h
  | (a0, c0) :: tr, acc, i, hl, ht, 0, a, c, h => by
    simp only [List.getElem?_cons_zero, Option.some.injEq, Prod.mk.injEq] at h
    obtain ⟨rfl, rfl⟩ := h
    have ha := ht 0 a0 c0 (by simp)
    simp only [pathsFrom]
    have h1 : i + 1 + 0 < (acc ++ [acc.getD a0 [] ++ [c0]]).length := by simp; omega
    rw [pathsFrom_pre tr _ (i + 1 + 0) h1, List.getElem?_append_right (by omega)]
    have h2 : a0 < (acc ++ [acc.getD a0 [] ++ [c0]]).length := by simp; omega
    rw [List.getD_eq_getElem?_getD (l := pathsFrom tr _), pathsFrom_pre tr _ a0 h2, List.getElem?_append_left (by omega), ← List.getD_eq_getElem?_getD]
    have e0 : i + 1 + 0 - acc.length = 0 := by omega
    rw [e0] <;> rfl
  | (a0, c0) :: tr, acc, i, hl, ht, j + 1, a, c, h => by
    simp only [pathsFrom]
    have := pathsFrom_at tr (acc ++ [acc.getD a0 [] ++ [c0]]) (i + 1) (by simp [hl]) (fun j a c h => by have := ht (j + 1) a c (by simpa using h); omega) j a c (by simpa using h)
    have e : i + 1 + (j + 1) = i + 1 + 1 + j := by omega
    rw [e]
    exact this
theorem Ordd.path_succ {T : Tab} {n k j a c : Nat} (G : Ordd T n k) (h : (treeOf T)[j]? = some (a, c)) : path T (j + 1) = path T a ++ [c] := by
  have h1 := pathsFrom_at (treeOf T) [[]] 0 rfl (fun j a c h => by have := (G.tree_ok.1 j a c h).1; omega) j a c h
  unfold path pathsOf
  have e : 0 + 1 + j = j + 1 := by omega
  rw [e] at h1
  rw [List.getD_eq_getElem?_getD, h1] <;> rfl
/-- the image of a number -/
def img (A B : Tab) (imgs : List Nat) (x : Nat) : Nat := (path A x).foldl (nxM B imgs) 0
structure VOk (B : Tab) (imgs : List Nat) (acc : List (Nat × Nat)) (fl : List Nat) : Prop where
  z : at_ fl 0 = 0
  s : ∀ (j a c : Nat), acc[j]? = some (a, c) → at_ fl (j + 1) = nxM B imgs (at_ fl a) c
theorem VOk.img {A B : Tab} {n k : Nat} {imgs fl : List Nat} (G : Ordd A n k) (h : VOk B imgs (treeOf A) fl) : ∀ x, x < n → at_ fl x = img A B imgs x := by
  intro x
  induction x using Nat.strongRecOn with
  | _ x ih =>
    intro hx
    cases x with
    | zero =>
      unfold K95.img
      rw [path_zero]
      exact h.z
    | succ j =>
      obtain ⟨h1, h2⟩ := G.tree_ok
      have hj : j < (treeOf A).length := by omega
      obtain ⟨a, c, e⟩ : ∃ a c, (treeOf A)[j]? = some (a, c) := ⟨_, _, List.getElem?_eq_getElem hj⟩
      have ha := (h1 j a c e).1
      rw [h.s j a c e, ih a (by omega) (by omega)]
      unfold K95.img
      rw [G.path_succ e, List.foldl_append] <;> rfl
/-- the images of the letters make a one-to-one map that goes with the products -/
structure IsoOk (A B : Tab) (n k : Nat) (imgs : List Nat) : Prop where
  inj : ((List.range n).map (img A B imgs)).Nodup
  hom : ∀ x c, x < n → c < k → nxM B imgs (img A B imgs x) c = img A B imgs (step A x c)
noncomputable def isoB (A B : Tab) (n k : Nat) (imgs : List Nat) : Bool := @decide (IsoOk A B n k imgs) (Classical.propDecidable _)
theorem isoB_true {A B : Tab} {n k : Nat} {imgs : List Nat} (h : IsoOk A B n k imgs) : isoB A B n k imgs = true := by
  unfold isoB
  exact @decide_eq_true _ (Classical.propDecidable _) h
theorem isoB_false {A B : Tab} {n k : Nat} {imgs : List Nat} (h : ¬ IsoOk A B n k imgs) : isoB A B n k imgs = false := by
  unfold isoB
  exact @decide_eq_false _ (Classical.propDecidable _) h
end K95
set_option autoImplicit false
set_option linter.all false
namespace K95
/-! ### all congruences are joins of principal ones -/
def Finer (n : Nat) (ρ σ : List Nat) : Prop := ∀ x y, x < n → y < n → at_ ρ x = at_ ρ y → at_ σ x = at_ σ y
section
variable {S : Tab} {n w : Nat} {ρ σ τ l1 l2 : List Nat}
theorem CongT.lt (C : CongT S n w ρ) {x : Nat} (hx : x < n) : at_ ρ x < n := by have := (C.rep x hx).1; omega
theorem at_ext {ρ σ : List Nat} (h1 : ρ.length = n) (h2 : σ.length = n) (h : ∀ i, i < n → at_ ρ i = at_ σ i) : ρ = σ := by
  refine List.ext_getElem? fun i => ?_
  by_cases hi : i < n
  · have := h i hi
    unfold at_ at this
    rw [List.getD_eq_getElem?_getD, List.getD_eq_getElem?_getD, List.getElem?_eq_getElem (by omega), List.getElem?_eq_getElem (by omega)] at this
    rw [List.getElem?_eq_getElem (by omega), List.getElem?_eq_getElem (by omega)]
    exact congrArg some this
  · rw [List.getElem?_eq_none (by omega), List.getElem?_eq_none (by omega)]
theorem CongT.eq_of (C1 : CongT S n w ρ) (C2 : CongT S n w σ) (h1 : Finer n ρ σ) (h2 : Finer n σ ρ) : ρ = σ := by
  refine at_ext C1.len C2.len fun i hi => ?_
  obtain ⟨a1, a2⟩ := C1.rep i hi
  obtain ⟨b1, b2⟩ := C2.rep i hi
  have e1 := h1 (at_ ρ i) i (by omega) hi a2
  have e2 := h2 (at_ σ i) i (by omega) hi b2
  have c1 := (C2.rep (at_ ρ i) (by omega)).1
  have c2 := (C1.rep (at_ σ i) (by omega)).1
  omega
/-- the join of two -/
structure JoinOf (S : Tab) (n w : Nat) (l1 l2 τ : List Nat) : Prop where
  c : CongT S n w τ
  a : Finer n l1 τ
  b : Finer n l2 τ
  least : ∀ σ, CongT S n w σ → Finer n l1 σ → Finer n l2 σ → Finer n τ σ
theorem Finer.trans {ρ σ τ : List Nat} (a : Finer n ρ σ) (b : Finer n σ τ) : Finer n ρ τ := fun x y hx hy h => b x y hx hy (a x y hx hy h)
theorem at_rts {n : Nat} {r : List Nat} {x : Nat} (hx : x < n) : at_ ((List.range n).map (rt r)) x = rt r x := by
  unfold at_
  rw [List.getD_eq_getElem?_getD, List.getElem?_map, List.getElem?_range hx] <;> rfl
theorem prs_finer {l : List Nat} (C : CongT S n w l) {f : Nat → Nat} (h : ∀ p ∈ prs l, f p.1 = f p.2) : ∀ x y, x < n → y < n → at_ l x = at_ l y → f x = f y := by
  have key : ∀ x, x < n → f x = f (at_ l x) := fun x hx => by
    have g : l[x]? = some (at_ l x) := by
      unfold at_
      rw [List.getD_eq_getElem?_getD, List.getElem?_eq_getElem (by rw [C.len]; exact hx)] <;> rfl
    exact h (x, at_ l x) (prs_of g)
  intro x y hx hy e
  rw [key x hx, key y hy, e]
theorem JI.joinOf {r : List Nat} (F : SForm S n w) (hst : ∀ x j, x < n → j < w → step S x j < n) (J : JI n (prs l1 ++ prs l2) r) (C1 : CongT S n w l1) (C2 : CongT S n w l2) : JoinOf S n w l1 l2 ((List.range n).map (rt r)) := by
  have on : ∀ p ∈ prs l1 ++ prs l2, rt r p.1 = rt r p.2 := J.on
  have fa : ∀ x y, x < n → y < n → at_ l1 x = at_ l1 y → rt r x = rt r y := prs_finer C1 fun p hp => on p (List.mem_append_left _ hp)
  have fb : ∀ x y, x < n → y < n → at_ l2 x = at_ l2 y → rt r x = rt r y := prs_finer C2 fun p hp => on p (List.mem_append_right _ hp)
  have pm : ∀ {l : List Nat}, CongT S n w l → ∀ p ∈ prs l, p.1 < n ∧ at_ l p.1 = p.2 := fun {l} C p hp => by
    have g := prs_mem hp
    have h1 := (List.getElem?_eq_some_iff.mp g).1
    rw [C.len] at h1
    refine ⟨h1, ?_⟩
    unfold at_
    rw [List.getD_eq_getElem?_getD, g] <;> rfl
  refine ⟨⟨by simp, fun i hi => ?_, fun x y hx hy e j hj => ?_⟩, fun x y hx hy e => ?_, fun x y hx hy e => ?_, fun σ C h1 h2 x y hx hy e => ?_⟩
  · have h1 := rt_le r i
    rw [at_rts hi, at_rts (by omega)]
    exact ⟨h1, rt_idem J.uf hi⟩
  · rw [at_rts hx, at_rts hy] at e
    rw [at_rts (hst x j hx hj), at_rts (hst y j hy hj)]
    refine J.least (fun a b => rt r (step S a j) = rt r (step S b j)) ⟨fun _ => rfl, fun h => h.symm, fun h g => h.trans g⟩ (fun p hp => ?_) x y hx hy e
    rcases List.mem_append.mp hp with hp | hp
    · obtain ⟨h1, h2⟩ := pm C1 p hp
      obtain ⟨h3, h4⟩ := C1.rep p.1 h1
      have h5 := C1.cl p.1 p.2 h1 (by omega) (by rw [← h2]; exact h4.symm) j hj
      exact fa _ _ (hst _ _ h1 hj) (hst _ _ (by omega) hj) h5
    · obtain ⟨h1, h2⟩ := pm C2 p hp
      obtain ⟨h3, h4⟩ := C2.rep p.1 h1
      have h5 := C2.cl p.1 p.2 h1 (by omega) (by rw [← h2]; exact h4.symm) j hj
      exact fb _ _ (hst _ _ h1 hj) (hst _ _ (by omega) hj) h5
  · rw [at_rts hx, at_rts hy]
    exact fa x y hx hy e
  · rw [at_rts hx, at_rts hy]
    exact fb x y hx hy e
  · rw [at_rts hx, at_rts hy] at e
    refine J.least (fun a b => at_ σ a = at_ σ b) ⟨fun _ => rfl, fun h => h.symm, fun h g => h.trans g⟩ (fun p hp => ?_) x y hx hy e
    rcases List.mem_append.mp hp with hp | hp
    · obtain ⟨h3, h4⟩ := pm C1 p hp
      obtain ⟨h5, h6⟩ := C1.rep p.1 h3
      exact h1 p.1 p.2 h3 (by omega) (by rw [← h4]; exact h6.symm)
    · obtain ⟨h3, h4⟩ := pm C2 p hp
      obtain ⟨h5, h6⟩ := C2.rep p.1 h3
      exact h2 p.1 p.2 h3 (by omega) (by rw [← h4]; exact h6.symm)
/-- the principal ones of all pairs below a bound are there -/
structure PrinOf (S : Tab) (n w : Nat) (l : List Nat) (x y : Nat) : Prop where
  c : CongT S n w l
  on : at_ l x = at_ l y
  least : ∀ σ, CongT S n w σ → at_ σ x = at_ σ y → Finer n l σ
/-- how many are the least of their class -/
def fixes (n : Nat) (ρ : List Nat) : Nat := (List.range n).countP fun x => at_ ρ x == x
theorem countP_lt {α : Type} {p q : α → Bool} : ∀ {l : List α}, (∀ x ∈ l, p x = true → q x = true) → (∃ x ∈ l, q x = true ∧ p x = false) → l.countP p < l.countP q
  | [], _, ⟨x, h, _⟩ => by cases h
  | a :: l, h, ⟨x, hx, hq, hp⟩ => by
    rw [List.countP_cons, List.countP_cons]
    have hle : l.countP p ≤ l.countP q := List.countP_mono_left fun y hy => h y (List.mem_cons_of_mem _ hy)
    rcases List.mem_cons.mp hx with rfl | hx
    · rw [hq, hp]
      simp
      omega
    · have ih := countP_lt (fun y hy => h y (List.mem_cons_of_mem _ hy)) ⟨x, hx, hq, hp⟩
      have h1 := h a (List.mem_cons_self ..)
      cases e1 : p a with
      | false => simp; omega
      | true => rw [h1 e1]; simp; omega
theorem fixes_lt (C1 : CongT S n w τ) (C2 : CongT S n w σ) (h : Finer n τ σ) {x y : Nat} (hx : x < n) (hy : y < n) (e : at_ σ x = at_ σ y) (ne : at_ τ x ≠ at_ τ y) : fixes n σ < fixes n τ := by
  refine countP_lt (fun z hz h1 => ?_) ?_
  · have hz := List.mem_range.mp hz
    have h1 : at_ σ z = z := eq_of_beq h1
    obtain ⟨a, b⟩ := C1.rep z hz
    have h2 := h (at_ τ z) z (by omega) hz b
    have h3 := (C2.rep (at_ τ z) (by omega)).1
    have : at_ τ z = z := by omega
    simp [this]
  · have hp := C1.rep x hx
    have hq := C1.rep y hy
    have e1 := h (at_ τ x) x (by omega) hx hp.2
    have e2 := h (at_ τ y) y (by omega) hy hq.2
    by_cases f1 : at_ σ (at_ τ x) = at_ τ x
    · by_cases f2 : at_ σ (at_ τ y) = at_ τ y
      · exact absurd (by omega) ne
      · exact ⟨at_ τ y, List.mem_range.mpr (by omega), by simp [hq.2], by simp [f2]⟩
    · exact ⟨at_ τ x, List.mem_range.mpr (by omega), by simp [hp.2], by simp [f1]⟩
theorem all_found {found pr : List (List Nat)} (h0 : ∃ ι ∈ found, ∀ σ, CongT S n w σ → Finer n ι σ) (hc : ∀ ρ ∈ found, CongT S n w ρ) (hp : ∀ x y, x < y → y < n → ∃ ρ ∈ pr, PrinOf S n w ρ x y)
    (hj : ∀ ρ ∈ found, ∀ π ∈ pr, ∃ τ ∈ found, JoinOf S n w ρ π τ) : ∀ σ, CongT S n w σ → σ ∈ found := by
  intro σ C
  have main : ∀ (m : Nat) (τ : List Nat), fixes n τ = m → τ ∈ found → Finer n τ σ → σ ∈ found := by
    intro m
    induction m using Nat.strongRecOn with
    | _ m ih =>
      intro τ hm hτ hf
      by_cases hall : Finer n σ τ
      · rw [← (hc τ hτ).eq_of C hf hall]
        exact hτ
      · have ⟨x, y, hx, hy, e, ne⟩ : ∃ x y, x < n ∧ y < n ∧ at_ σ x = at_ σ y ∧ at_ τ x ≠ at_ τ y := by
          refine Classical.byContradiction fun hno => hall fun x y hx hy e => Classical.byContradiction fun ne => hno ⟨x, y, hx, hy, e, ne⟩
        have wlog : ∃ x y, x < y ∧ y < n ∧ at_ σ x = at_ σ y ∧ at_ τ x ≠ at_ τ y := by
          rcases Nat.lt_trichotomy x y with h | h | h
          · exact ⟨x, y, h, hy, e, ne⟩
          · subst h; exact absurd rfl ne
          · exact ⟨y, x, h, hx, e.symm, fun z => ne z.symm⟩
        obtain ⟨x, y, hxy, hy, e, ne⟩ := wlog
        obtain ⟨π, hπ, P⟩ := hp x y hxy hy
        obtain ⟨υ, hυ, J⟩ := hj τ hτ π hπ
        have hlt := fixes_lt (hc τ hτ) J.c J.a (by omega) hy (J.b x y (by omega) hy P.on) ne
        exact ih (fixes n υ) (by omega) υ rfl hυ (J.least σ C hf (P.least σ C e))
  obtain ⟨ι, hι, hi⟩ := h0
  exact main _ ι rfl hι (hi σ C)
/-- the finest -/
theorem cong_id (F : SForm S n w) (hst : ∀ x j, x < n → j < w → step S x j < n) : CongT S n w (List.range n) ∧ ∀ σ, CongT S n w σ → Finer n (List.range n) σ := by
  have e : ∀ x, x < n → at_ (List.range n) x = x := fun x hx => by
    unfold at_
    rw [List.getD_eq_getElem?_getD, List.getElem?_range hx] <;> rfl
  refine ⟨⟨by simp, fun i hi => ?_, fun x y hx hy h j hj => ?_⟩, fun σ C x y hx hy h => ?_⟩
  · rw [e i hi, e i hi]
    exact ⟨Nat.le_refl _, rfl⟩
  · rw [e x hx, e y hy] at h
    rw [h]
  · rw [e x hx, e y hy] at h
    rw [h]
theorem ClI.prin {r : List Nat} {x y : Nat} (F : SForm S n w) (hx : x < n) (hy : y < n) (I : ClI S n w [(x, y)] r []) : PrinOf S n w ((List.range n).map (rt r)) x y := by
  refine ⟨I.done F, I.pairs (fun p hp => by rw [List.mem_singleton.mp hp]; exact ⟨hx, hy⟩) (x, y) (List.mem_singleton.mpr rfl), fun σ C e a b ha hb h => ?_⟩
  exact I.least (E := fun a b => at_ σ a = at_ σ b) ⟨⟨fun _ => rfl, fun h => h.symm, fun h g => h.trans g⟩, C.cl⟩ (fun p hp => by rw [List.mem_singleton.mp hp]; exact e) ha hb h
end
end K95
set_option autoImplicit false
set_option linter.all false
namespace K95
/-! ### what divides what -/
section
variable {T A : Tab} {n k : Nat}
theorem getD_map_range {f : Nat → Nat} {k c : Nat} (h : c < k) : ((List.range k).map f).getD c 0 = f c := by
  rw [List.getD_eq_getElem?_getD, List.getElem?_map, List.getElem?_range h] <;> rfl
/-- the letters of a monoid, as numbers -/
def lets (T : Tab) (k : Nat) : List Nat := (List.range k).map (step T 0)
theorem lets_len (T : Tab) (k : Nat) : (lets T k).length = k := by simp [lets]
theorem lets_lt (G : Good T n k) : ∀ x ∈ lets T k, x < n := fun x hx => by
  obtain ⟨c, hc, rfl⟩ := List.mem_map.mp hx
  exact G.form.step_lt G.form.n1 (List.mem_range.mp hc)
theorem lets_step (G : Good T n k) {x c : Nat} (hx : x < n) (hc : c < k) : nxM T (lets T k) x c = step T x c := by
  unfold nxM lets
  rw [getD_map_range hc]
  exact (G.step_mul hx hc).symm
theorem lets_fold (G : Good T n k) : ∀ (w : List Nat) {x : Nat}, Letters k w → x < n → w.foldl (nxM T (lets T k)) x = run T x w
  | [], _, _, _ => rfl
  | c :: w, x, hw, hx => by
    rw [List.foldl_cons, run_cons, lets_step G hx hw.head]
    exact lets_fold G w hw.tail (G.form.step_lt hx hw.head)
theorem led_self (G : Good T n k) : LedRow T T (lets T k) := by
  unfold LedRow
  rw [lets_len]
  exact ⟨id, rfl, fun w hw => lets_fold G w hw G.form.n1⟩
/-- a quotient divides -/
theorem led_quot {ρ found : List Nat} {rows : Tab} (G : Good T n k) (C : CongT (stepsOf T) n (2 * k) ρ) (B : Bfs (nxQ T ρ) k 0 found rows) (hl : rows.length = found.length) : LedRow rows T (lets T k) := by
  unfold LedRow
  rw [lets_len]
  have h0 : at_ ρ 0 = 0 := by
    have := (C.rep 0 G.form.n1).1
    omega
  refine ⟨fun x => found.idxOf (at_ ρ x), ?_, fun w hw => ?_⟩
  · show found.idxOf (at_ ρ 0) = 0
    rw [h0]
    exact idx_eq B.nd B.h0
  · show found.idxOf (at_ ρ _) = _
    rw [lets_fold G w hw G.form.n1]
    have h1 := nxQ_val G C hw
    have h2 := B.val_at hl hw
    rw [h1] at h2
    exact idx_eq B.nd h2
/-- a quotient of a part divides -/
theorem led_part {ρ fP fQ nums : List Nat} {P Q : Tab} (G : Good T n k) (hn : ∀ x ∈ nums, x < n) (h1 : 1 ≤ nums.length) (h6 : nums.length ≤ 6) (B : Bfs (nxM T nums) nums.length 0 fP P) (hl : P.length = fP.length)
    (C : CongT (stepsOf P) fP.length (2 * nums.length) ρ) (BQ : Bfs (nxQ P ρ) nums.length 0 fQ Q) (hq : Q.length = fQ.length) : LedRow Q T nums := by
  unfold LedRow
  have GP := (gen_good G hn h1 h6 B hl).1
  have h0 : at_ ρ 0 = 0 := by
    have := (C.rep 0 GP.form.n1).1
    omega
  refine ⟨fun x => fQ.idxOf (at_ ρ (fP.idxOf x)), ?_, fun w hw => ?_⟩
  · show fQ.idxOf (at_ ρ (fP.idxOf 0)) = 0
    rw [idx_eq B.nd B.h0, h0]
    exact idx_eq BQ.nd BQ.h0
  · show fQ.idxOf (at_ ρ (fP.idxOf _)) = _
    rw [idx_eq B.nd (B.val_at hl hw)]
    have e1 := nxQ_val GP C hw
    have e2 := BQ.val_at hq hw
    rw [e1] at e2
    exact idx_eq BQ.nd e2
/-- a led row generates no less -/
theorem led_size {B : Tab} {nums sub : List Nat} (G : Good A n k) (hk : nums.length = k) (h : LedRow A B nums) (hs : ∀ w, Letters k w → w.foldl (nxM B nums) 0 ∈ sub) : n ≤ sub.length := by
  obtain ⟨f, f0, hf⟩ := h
  rw [hk] at hf
  have h1 : ∀ x ∈ List.range n, x ∈ sub.map f := fun x hx => by
    obtain ⟨a1, a2⟩ := G.path_ok (List.mem_range.mp hx)
    exact List.mem_map.mpr ⟨_, hs _ a2, by rw [hf _ a2]; exact a1⟩
  have h2 : ∀ {l m : List Nat}, l.Nodup → (∀ x ∈ l, x ∈ m) → l.length ≤ m.length := by
    intro l
    induction l with
    | nil => intros; exact Nat.zero_le _
    | cons x r ih =>
      intro m hn h
      rw [List.nodup_cons] at hn
      obtain ⟨a, b, rfl⟩ := List.append_of_mem (h x List.mem_cons_self)
      have := ih (m := a ++ b) hn.2 fun y hy => by
        have h1 := h y (List.mem_cons_of_mem _ hy)
        rcases List.mem_append.mp h1 with h2 | h2
        · exact List.mem_append_left _ h2
        · rcases List.mem_cons.mp h2 with h3 | h3
          · subst h3
            exact absurd hy hn.1
          · exact List.mem_append_right _ h3
      simp at this ⊢
      omega
  have := h2 List.nodup_range h1
  simpa using this
theorem bfs_all {α : Type} [DecidableEq α] {nx : α → Nat → α} {k : Nat} {x0 : α} {found : List α} {rows : Tab} (B : Bfs nx k x0 found rows) (hl : rows.length = found.length) {w : List Nat} (hw : Letters k w) : w.foldl nx x0 ∈ found := List.mem_of_getElem? (B.val_at hl hw)
def thinT : Tab := [[1], [1]]
/-- each divides its product with another -/
theorem led_thin {found : List (Nat × Nat)} {rows : Tab} (GA : Good A n k) (B : Bfs (nxD thinT A 1 k) (1 + k) (0, 0) found rows) (hl : rows.length = found.length) (GR : Good rows found.length (1 + k)) : LedRow thinT rows [step rows 0 0] := by
  unfold LedRow
  have hl1 : (ltsD 1 k).getD 0 (0, 0) = (0, 0) := rfl
  have key : ∀ (w : List Nat) (x : Nat), Letters 1 w → x < found.length → w.foldl (nxM rows [step rows 0 0]) x = run rows x w := by
    intro w
    induction w with
    | nil => intros; rfl
    | cons c w ih =>
      intro x hw hx
      have hc : c = 0 := by have := hw.head; omega
      subst hc
      rw [List.foldl_cons, run_cons]
      have e : nxM rows [step rows 0 0] x 0 = step rows x 0 := (GR.step_mul hx (by omega)).symm
      rw [e]
      exact ih _ hw.tail (GR.form.step_lt hx (by omega))
  have fst : ∀ (w : List Nat) (p : Nat × Nat), Letters 1 w → (w.foldl (nxD thinT A 1 k) p).1 = w.foldl (step thinT) p.1 := by
    intro w
    induction w with
    | nil => intros; rfl
    | cons c w ih =>
      intro p hw
      have hc : c = 0 := by have := hw.head; omega
      subst hc
      rw [List.foldl_cons, List.foldl_cons, ih _ hw.tail]
      rfl
  have h0 : 0 < found.length := (List.getElem?_eq_some_iff.mp B.h0).1
  refine ⟨fun x => (found.getD x (0, 0)).1, ?_, fun w hw => ?_⟩
  · show (found.getD 0 (0, 0)).1 = 0
    rw [List.getD_eq_getElem?_getD, B.h0] <;> rfl
  · show (found.getD _ (0, 0)).1 = _
    have hw' : Letters 1 w := hw
    rw [key w 0 hw' h0]
    have h1 := B.val_at hl (w := w) (fun c hc => by have := hw' c hc; omega)
    rw [List.getD_eq_getElem?_getD, show run rows 0 w = val rows w from rfl, h1]
    exact fst w (0, 0) hw'
theorem find_of {α : Type} {p : α → Bool} {l : List α} {x : α} (h : x ∈ l) (hp : p x = true) : l.find? p ≠ none := fun z => by
  rw [List.find?_eq_none] at z
  exact z x h hp
end
end K95
set_option autoImplicit false
set_option linter.all false
namespace K95
/-! ### how many congruences there are at most -/
theorem ndLe {α : Type} : ∀ {l m : List α}, l.Nodup → (∀ x ∈ l, x ∈ m) → l.length ≤ m.length
  | [], _, _, _ => Nat.zero_le _
  | x :: r, m, hn, h => by
    rw [List.nodup_cons] at hn
    obtain ⟨a, b, rfl⟩ := List.append_of_mem (h x List.mem_cons_self)
    have := ndLe (l := r) (m := a ++ b) hn.2 fun y hy => by
      have h1 := h y (List.mem_cons_of_mem _ hy)
      rcases List.mem_append.mp h1 with h2 | h2
      · exact List.mem_append_left _ h2
      · rcases List.mem_cons.mp h2 with h3 | h3
        · subst h3
          exact absurd hy hn.1
        · exact List.mem_append_right _ h3
    simp at this ⊢
    omega
theorem ndMap {α β : Type} {f : α → β} : ∀ {l : List α}, (∀ a ∈ l, ∀ b ∈ l, f a = f b → a = b) → l.Nodup → (l.map f).Nodup
  | [], _, _ => .nil
  | x :: r, h, hn => by
    rw [List.nodup_cons] at hn
    rw [List.map_cons, List.nodup_cons]
    refine ⟨fun hx => ?_, ndMap (fun a ha b hb => h a (List.mem_cons_of_mem _ ha) b (List.mem_cons_of_mem _ hb)) hn.2⟩
    obtain ⟨y, hy, e⟩ := List.mem_map.mp hx
    have := h y (List.mem_cons_of_mem _ hy) x List.mem_cons_self e
    subst this
    exact hn.1 hy
theorem least_ex {p : Nat → Prop} (h : ∃ i, p i) : ∃ i, p i ∧ ∀ j, j < i → ¬ p j := by
  obtain ⟨i, hi⟩ := h
  induction i using Nat.strongRecOn with
  | _ i ih =>
    by_cases q : ∃ j, j < i ∧ p j
    · obtain ⟨j, h1, h2⟩ := q
      exact ih j h1 h2
    · exact ⟨i, hi, fun j h1 h2 => q ⟨j, h1, h2⟩⟩
open Classical in
noncomputable def leastOf (E : Nat → Nat → Prop) (i : Nat) : Nat := if h : ∃ j, E i j then choose (least_ex h) else 0
noncomputable def canon (n : Nat) (E : Nat → Nat → Prop) : List Nat := (List.range n).map (leastOf E)
section
variable {E : Nat → Nat → Prop} {n : Nat}
theorem leastOf_ok (hE : Equivalence E) (i : Nat) : E i (leastOf E i) ∧ (∀ j, j < leastOf E i → ¬ E i j) := by
  have h : ∃ j, E i j := ⟨i, hE.refl i⟩
  unfold leastOf
  rw [dif_pos h]
  exact Classical.choose_spec (least_ex h)
theorem leastOf_le (hE : Equivalence E) (i : Nat) : leastOf E i ≤ i := by
  have := (leastOf_ok hE i).2 i
  exact Nat.le_of_not_lt fun z => this z (hE.refl i)
theorem leastOf_iff (hE : Equivalence E) (x y : Nat) : leastOf E x = leastOf E y ↔ E x y := by
  obtain ⟨a1, a2⟩ := leastOf_ok hE x
  obtain ⟨b1, b2⟩ := leastOf_ok hE y
  constructor
  · intro e
    rw [e] at a1
    exact hE.trans a1 (hE.symm b1)
  · intro e
    have h1 : ¬ leastOf E y < leastOf E x := fun z => a2 _ z (hE.trans e b1)
    have h2 : ¬ leastOf E x < leastOf E y := fun z => b2 _ z (hE.trans (hE.symm e) a1)
    omega
theorem canon_at {x : Nat} (hx : x < n) : at_ (canon n E) x = leastOf E x := by
  unfold at_ canon
  rw [List.getD_eq_getElem?_getD, List.getElem?_map, List.getElem?_range hx] <;> rfl
theorem canon_iff (hE : Equivalence E) {x y : Nat} (hx : x < n) (hy : y < n) : at_ (canon n E) x = at_ (canon n E) y ↔ E x y := by
  rw [canon_at hx, canon_at hy]
  exact leastOf_iff hE x y
theorem canon_cong {S : Tab} {w : Nat} (F : SForm S n w) (h : ClE S n w E) : CongT S n w (canon n E) := by
  refine ⟨by simp [canon], fun i hi => ?_, fun x y hx hy e j hj => ?_⟩
  · have h1 := leastOf_le h.eq i
    rw [canon_at hi, canon_at (by omega)]
    exact ⟨h1, (leastOf_iff h.eq _ _).mpr (h.eq.symm (leastOf_ok h.eq i).1)⟩
  · have e1 := (canon_iff h.eq hx hy).mp e
    exact (canon_iff h.eq (F.ent _ _ hx hj) (F.ent _ _ hy hj)).mpr (h.cl x y hx hy e1 j hj)
end
/-- lists that tell parts of m things -/
def partsN (m : Nat) : List (List Nat) := (rowsL m m).filter fun v => (List.range m).all fun i => decide (at_ v i ≤ i) && decide (at_ v (at_ v i) = at_ v i)
theorem parts1 : (partsN 1).length = 1 := by decide +kernel
theorem parts2 : (partsN 2).length = 2 := by decide +kernel
theorem parts3 : (partsN 3).length = 5 := by decide +kernel
theorem parts4 : (partsN 4).length = 15 := by decide +kernel
theorem parts5 : (partsN 5).length = 52 := by decide +kernel
section
variable {S : Tab} {n w : Nat} {σ ρ : List Nat}
theorem atGet {R : List Nat} {i : Nat} (h : i < R.length) : R[i]? = some (at_ R i) := by
  unfold at_
  rw [List.getD_eq_getElem?_getD, List.getElem?_eq_getElem h] <;> rfl
theorem at_of {R : List Nat} {i x : Nat} (h : R[i]? = some x) : at_ R i = x := by
  unfold at_
  rw [List.getD_eq_getElem?_getD, h] <;> rfl
theorem asc_lt {R : List Nat} (h : R.Pairwise (· < ·)) {i j : Nat} (hij : i < j) (hj : j < R.length) : at_ R i < at_ R j := by
  have h1 := List.pairwise_iff_getElem.mp h i j (by omega) hj hij
  rw [at_of (List.getElem?_eq_getElem (show i < R.length by omega)), at_of (List.getElem?_eq_getElem hj)]
  exact h1
theorem asc_nodup {R : List Nat} (h : R.Pairwise (· < ·)) : R.Nodup := h.imp fun z => Nat.ne_of_lt z
theorem map_range_at {f : Nat → Nat} {m i : Nat} (h : i < m) : at_ ((List.range m).map f) i = f i := by
  refine at_of ?_
  rw [List.getElem?_map, List.getElem?_range h] <;> rfl
theorem parts_bound {R : List Nat} (hR : R.Pairwise (· < ·)) {l : List (List Nat)} (hl : l.Nodup) (hc : ∀ ρ ∈ l, CongT S n w ρ) (hRn : ∀ r ∈ R, r < n) (hr : ∀ ρ ∈ l, ∀ r ∈ R, at_ ρ r ∈ R)
    (hd : ∀ ρ ∈ l, ∀ ρ' ∈ l, (∀ r ∈ R, at_ ρ r = at_ ρ' r) → ρ = ρ') : l.length ≤ (partsN R.length).length := by
  have hin : ∀ i, i < R.length → at_ R i ∈ R := fun i hi => List.mem_of_getElem? (atGet hi)
  have hn : (l.map fun ρ => (List.range R.length).map fun i => R.idxOf (at_ ρ (at_ R i))).Nodup := by
    refine ndMap (fun ρ hρ ρ' hρ' e => hd ρ hρ ρ' hρ' fun r hr' => ?_) hl
    obtain ⟨i, hi⟩ := List.mem_iff_getElem?.mp hr'
    have hil := (List.getElem?_eq_some_iff.mp hi).1
    have e1 := congrArg (fun z => at_ z i) e
    simp only [map_range_at hil, at_of hi] at e1
    have g1 := idx_get (hr ρ hρ r hr')
    have g2 := idx_get (hr ρ' hρ' r hr')
    rw [e1, g2] at g1
    exact (Option.some.inj g1).symm
  have := ndLe hn (m := partsN R.length) fun v hv => by
    obtain ⟨ρ, hρ, rfl⟩ := List.mem_map.mp hv
    have C := hc ρ hρ
    unfold partsN
    rw [List.mem_filter]
    refine ⟨rowsL_mem.mpr ⟨by simp, fun x hx => ?_⟩, List.all_eq_true.mpr fun i hi => ?_⟩
    · obtain ⟨i, hi, rfl⟩ := List.mem_map.mp hx
      exact idx_lt (hr ρ hρ _ (hin i (List.mem_range.mp hi)))
    · have hi := List.mem_range.mp hi
      have hm := hr ρ hρ _ (hin i hi)
      have hj := idx_lt hm
      have g := at_of (idx_get hm)
      obtain ⟨c1, c2⟩ := C.rep (at_ R i) (hRn _ (hin i hi))
      rw [map_range_at hi, map_range_at hj, g, c2]
      rw [Bool.and_eq_true, decide_eq_true_eq, decide_eq_true_eq]
      refine ⟨Nat.le_of_not_lt fun z => ?_, rfl⟩
      have := asc_lt hR z hj
      omega
  simpa using this
/-- the least ones of the classes -/
def repsOf (n : Nat) (σ : List Nat) : List Nat := (List.range n).filter fun x => at_ σ x == x
theorem repsOf_mem {x : Nat} : x ∈ repsOf n σ ↔ x < n ∧ at_ σ x = x := by
  unfold repsOf
  rw [List.mem_filter, List.mem_range, beq_iff_eq]
theorem repsOf_asc : (repsOf n σ).Pairwise (· < ·) := List.Pairwise.filter _ List.pairwise_lt_range
theorem repsOf_len : (repsOf n σ).length = fixes n σ := by
  unfold repsOf fixes
  rw [List.countP_eq_length_filter]
/-- but for 0 -/
def repsZ (n : Nat) (σ : List Nat) : List Nat := (repsOf n σ).filter fun x => x != 0
theorem repsZ_mem {x : Nat} : x ∈ repsZ n σ ↔ x < n ∧ at_ σ x = x ∧ x ≠ 0 := by
  unfold repsZ
  rw [List.mem_filter, repsOf_mem, bne_iff_ne, and_assoc]
theorem repsZ_asc : (repsZ n σ).Pairwise (· < ·) := List.Pairwise.filter _ repsOf_asc
theorem CongT.zero (C : CongT S n w σ) (h : 0 < n) : at_ σ 0 = 0 := by have := (C.rep 0 h).1; omega
theorem repsZ_len (C : CongT S n w σ) (h : 0 < n) : (repsZ n σ).length + 1 = fixes n σ := by
  rw [← repsOf_len]
  have h1 : (0 :: repsZ n σ).Nodup := by
    rw [List.nodup_cons]
    exact ⟨fun z => (repsZ_mem.mp z).2.2 rfl, asc_nodup repsZ_asc⟩
  have h2 := ndLe h1 (m := repsOf n σ) fun x hx => by
    rcases List.mem_cons.mp hx with e | e
    · rw [e]
      exact repsOf_mem.mpr ⟨h, C.zero h⟩
    · obtain ⟨a, b, _⟩ := repsZ_mem.mp e
      exact repsOf_mem.mpr ⟨a, b⟩
  have h3 := ndLe (asc_nodup (repsOf_asc (n := n) (σ := σ))) (m := 0 :: repsZ n σ) fun x hx => by
    obtain ⟨a, b⟩ := repsOf_mem.mp hx
    by_cases e : x = 0
    · rw [e]; exact List.mem_cons_self
    · exact List.mem_cons_of_mem _ (repsZ_mem.mpr ⟨a, b, e⟩)
  simp at h2 h3
  omega
/-- the least of a coarser class is the least of a finer one -/
theorem rep_finer (C1 : CongT S n w σ) (C2 : CongT S n w ρ) (h : Finer n σ ρ) {x : Nat} (hx : x < n) (e : at_ ρ x = x) : at_ σ x = x := by
  obtain ⟨a, b⟩ := C1.rep x hx
  have h1 := h (at_ σ x) x (by omega) hx b
  have h2 := (C2.rep (at_ σ x) (by omega)).1
  omega
theorem at_finer (C1 : CongT S n w σ) (h : Finer n σ ρ) {x : Nat} (hx : x < n) : at_ ρ (at_ σ x) = at_ ρ x := by
  obtain ⟨a, b⟩ := C1.rep x hx
  exact h (at_ σ x) x (by omega) hx b
theorem bell_all (C : CongT S n w σ) {l : List (List Nat)} (hl : l.Nodup) (hc : ∀ ρ ∈ l, CongT S n w ρ ∧ Finer n σ ρ) : l.length ≤ (partsN (fixes n σ)).length := by
  rw [← repsOf_len]
  refine parts_bound repsOf_asc hl (fun ρ h => (hc ρ h).1) (fun r h => (repsOf_mem.mp h).1) (fun ρ hρ r h => ?_) fun ρ hρ ρ' hρ' h => ?_
  · obtain ⟨a, b⟩ := repsOf_mem.mp h
    obtain ⟨c, d⟩ := (hc ρ hρ).1.rep r a
    exact repsOf_mem.mpr ⟨by omega, rep_finer C (hc ρ hρ).1 (hc ρ hρ).2 (by omega) d⟩
  · refine at_ext (hc ρ hρ).1.len (hc ρ' hρ').1.len fun i hi => ?_
    obtain ⟨a, b⟩ := C.rep i hi
    rw [← at_finer C (hc ρ hρ).2 hi, ← at_finer C (hc ρ' hρ').2 hi]
    exact h _ (repsOf_mem.mpr ⟨by omega, b⟩)
theorem bell_zero (h0 : 0 < n) (C : CongT S n w σ) {l : List (List Nat)} (hl : l.Nodup) (hc : ∀ ρ ∈ l, CongT S n w ρ ∧ Finer n σ ρ) (hz : ∀ ρ ∈ l, ∀ y, y < n → at_ ρ y = 0 → at_ σ y = 0) : l.length ≤ (partsN (repsZ n σ).length).length := by
  refine parts_bound repsZ_asc hl (fun ρ h => (hc ρ h).1) (fun r h => (repsZ_mem.mp h).1) (fun ρ hρ r h => ?_) fun ρ hρ ρ' hρ' h => ?_
  · obtain ⟨a, b, e⟩ := repsZ_mem.mp h
    obtain ⟨c, d⟩ := (hc ρ hρ).1.rep r a
    refine repsZ_mem.mpr ⟨by omega, rep_finer C (hc ρ hρ).1 (hc ρ hρ).2 (by omega) d, fun z => e ?_⟩
    have := hz ρ hρ r a z
    omega
  · refine at_ext (hc ρ hρ).1.len (hc ρ' hρ').1.len fun i hi => ?_
    obtain ⟨a, b⟩ := C.rep i hi
    rw [← at_finer C (hc ρ hρ).2 hi, ← at_finer C (hc ρ' hρ').2 hi]
    by_cases e : at_ σ i = 0
    · rw [e, (hc ρ hρ).1.zero h0, (hc ρ' hρ').1.zero h0]
    · exact h _ (repsZ_mem.mpr ⟨by omega, b, e⟩)
/-- all are one -/
theorem top_cong (F : SForm S n w) : CongT S n w (List.replicate n 0) ∧ ∀ ρ, CongT S n w ρ → Finer n ρ (List.replicate n 0) := by
  have e : ∀ x, x < n → at_ (List.replicate n 0) x = 0 := fun x hx => at_of (by rw [List.getElem?_replicate, if_pos hx])
  refine ⟨⟨by simp, fun i hi => ?_, fun x y hx hy _ j hj => ?_⟩, fun ρ C x y hx hy _ => ?_⟩
  · rw [e i hi, e 0 (by omega)]
    exact ⟨Nat.zero_le _, rfl⟩
  · rw [e _ (F.ent _ _ hx hj), e _ (F.ent _ _ hy hj)]
  · rw [e x hx, e y hy]
/-- the least one that joins y with 0 -/
noncomputable def joinZ (S : Tab) (n w : Nat) (σ : List Nat) (y : Nat) : List Nat := canon n fun a b => ∀ ρ, CongT S n w ρ → Finer n σ ρ → at_ ρ y = at_ ρ 0 → at_ ρ a = at_ ρ b
theorem joinZ_cl (S : Tab) (n w : Nat) (σ : List Nat) (y : Nat) : ClE S n w fun a b => ∀ ρ, CongT S n w ρ → Finer n σ ρ → at_ ρ y = at_ ρ 0 → at_ ρ a = at_ ρ b :=
  ⟨⟨fun _ _ _ _ _ => rfl, fun h ρ a b c => (h ρ a b c).symm, fun h g ρ a b c => (h ρ a b c).trans (g ρ a b c)⟩, fun x y' hx hy h j hj ρ a b c => a.cl x y' hx hy (h ρ a b c) j hj⟩
theorem joinZ_ok (F : SForm S n w) {y : Nat} (h0 : 0 < n) (hy : y < n) : CongT S n w (joinZ S n w σ y) ∧ Finer n σ (joinZ S n w σ y) ∧ at_ (joinZ S n w σ y) y = at_ (joinZ S n w σ y) 0 ∧ ∀ ρ, CongT S n w ρ → Finer n σ ρ → at_ ρ y = at_ ρ 0 → Finer n (joinZ S n w σ y) ρ := by
  have hE := (joinZ_cl S n w σ y).eq
  refine ⟨canon_cong F (joinZ_cl S n w σ y), fun a b ha hb e => (canon_iff hE ha hb).mpr fun ρ c1 c2 _ => c2 a b ha hb e, (canon_iff hE hy h0).mpr fun ρ _ _ e => e, fun ρ c1 c2 c3 a b ha hb e => ?_⟩
  exact (canon_iff hE ha hb).mp e ρ c1 c2 c3
end
section
variable {T : Tab} {n k : Nat} {ρ σ : List Nat}
theorem cong_runR (G : Good T n k) (C : CongT (stepsOf T) n (2 * k) ρ) : ∀ (u : List Nat) {x y : Nat}, Letters k u → x < n → y < n → at_ ρ x = at_ ρ y → at_ ρ (run T x u) = at_ ρ (run T y u)
  | [], _, _, _, _, _, h => h
  | c :: u, x, y, hu, hx, hy, h => by
    rw [run_cons, run_cons]
    exact cong_runR G C u hu.tail (G.form.step_lt hx hu.head) (G.form.step_lt hy hu.head) (cong_right G C hx hy h hu.head)
theorem cong_mulR (G : Good T n k) (C : CongT (stepsOf T) n (2 * k) ρ) {x y z : Nat} (hx : x < n) (hy : y < n) (hz : z < n) (h : at_ ρ x = at_ ρ y) : at_ ρ (mul T x z) = at_ ρ (mul T y z) :=
  cong_runR G C _ (G.path_ok hz).2 hx hy h
theorem cong_valL (G : Good T n k) (C : CongT (stepsOf T) n (2 * k) ρ) {x y : Nat} (hx : x < n) (hy : y < n) (h : at_ ρ x = at_ ρ y) : ∀ (u : List Nat), Letters k u → at_ ρ (mul T (val T u) x) = at_ ρ (mul T (val T u) y) := by
  intro u
  induction u with
  | nil =>
    intro _
    show at_ ρ (mul T 0 x) = at_ ρ (mul T 0 y)
    rw [G.one_mul hx, G.one_mul hy]
    exact h
  | cons c u ih =>
    intro hu
    have hc := G.form.step_lt G.form.n1 hu.head
    have hv := G.form.run_lt G.form.n1 hu.tail
    have e : val T (c :: u) = mul T (step T 0 c) (val T u) := by
      show run T 0 (c :: u) = _
      rw [run_cons]
      exact G.run_eq hc hu.tail
    rw [e, G.assoc hc hv hx, G.assoc hc hv hy]
    exact cong_left G C (G.mul_lt hv hx) (G.mul_lt hv hy) (ih hu.tail) hu.head
theorem cong_mulL (G : Good T n k) (C : CongT (stepsOf T) n (2 * k) ρ) {x y z : Nat} (hx : x < n) (hy : y < n) (hz : z < n) (h : at_ ρ x = at_ ρ y) : at_ ρ (mul T z x) = at_ ρ (mul T z y) := by
  obtain ⟨a1, a2⟩ := G.path_ok hz
  have := cong_valL G C hx hy h _ a2
  rw [a1] at this
  exact this
/-- where joining y with 0 joins no more: whatever joins something with 0 joins y -/
theorem near_one (G : Good T n k) (Cs : CongT (stepsOf T) n (2 * k) σ) {y : Nat} (hy : y ∈ repsZ n σ) (hq : fixes n (joinZ (stepsOf T) n (2 * k) σ y) + 1 = fixes n σ)
    (C : CongT (stepsOf T) n (2 * k) ρ) (hf : Finer n σ ρ) {z : Nat} (hz : z < n) (e1 : at_ ρ z = 0) (e2 : at_ σ z ≠ 0) : at_ ρ y = at_ ρ 0 := by
  have n1 : 0 < n := G.form.n1
  obtain ⟨hyn, hyr, hy0⟩ := repsZ_mem.mp hy
  obtain ⟨CJ, FJ, oJ, lJ⟩ := joinZ_ok (σ := σ) (stepsOf_form G) n1 hyn
  have zJ := CJ.zero n1
  have zr := C.zero n1
  generalize joinZ (stepsOf T) n (2 * k) σ y = J at hq CJ FJ oJ lJ zJ
  have hJy : at_ J y = 0 := by rw [oJ, zJ]
  have key : ∀ r, r < n → at_ σ r = r → r ≠ y → at_ J r = r := fun r hr hrr hry => Classical.byContradiction fun hne => by
    have hn : (r :: y :: repsOf n J).Nodup := by
      rw [List.nodup_cons, List.nodup_cons]
      refine ⟨fun h => ?_, fun h => ?_, asc_nodup repsOf_asc⟩
      · rcases List.mem_cons.mp h with h | h
        · exact hry h
        · exact hne (repsOf_mem.mp h).2
      · have := (repsOf_mem.mp h).2
        omega
    have := ndLe hn (m := repsOf n σ) fun x hx => by
      rcases List.mem_cons.mp hx with rfl | hx
      · exact repsOf_mem.mpr ⟨hr, hrr⟩
      · rcases List.mem_cons.mp hx with rfl | hx
        · exact repsOf_mem.mpr ⟨hyn, hyr⟩
        · obtain ⟨a, b⟩ := repsOf_mem.mp hx
          exact repsOf_mem.mpr ⟨a, rep_finer Cs CJ FJ a b⟩
    simp only [List.length_cons, repsOf_len] at this
    omega
  have hu := G.mul_lt hyn hz
  have u1 : at_ J (mul T y z) = at_ J z := by
    have := cong_mulR G CJ hyn n1 hz oJ
    rw [G.one_mul hz] at this
    exact this
  have u2 : at_ ρ (mul T y z) = at_ ρ y := by
    have := cong_mulL G C hz n1 hyn (e1.trans zr.symm)
    rw [mul_one] at this
    exact this
  obtain ⟨z1, z2⟩ := Cs.rep z hz
  obtain ⟨w1, w2⟩ := Cs.rep (mul T y z) hu
  have jz := at_finer Cs FJ hz
  have ju := at_finer Cs FJ hu
  by_cases a : at_ σ z = y
  · have := at_finer Cs hf hz
    rw [a] at this
    rw [this, e1, zr]
  · have b1 := key (at_ σ z) (by omega) z2 a
    by_cases b : at_ σ (mul T y z) = y
    · rw [b, hJy] at ju
      exact absurd (by omega) e2
    · have b2 := key (at_ σ (mul T y z)) (by omega) w2 b
      have e3 : at_ σ (mul T y z) = at_ σ z := by omega
      have := hf _ _ hu hz e3
      rw [u2, e1] at this
      rw [this, zr]
def fb : Nat → Nat
  | 0 => 1
  | 1 => 1
  | 2 => 2
  | 3 => 5
  | 4 => 10
  | 5 => 32
  | _ => 98
theorem fb_mono {a b : Nat} (h : a ≤ b) : fb a ≤ fb b := by
  have : ∀ a, fb a ≤ fb (a + 1) := fun a => by
    match a with
    | 0 => decide
    | 1 => decide
    | 2 => decide
    | 3 => decide
    | 4 => decide
    | 5 => decide
    | n + 6 => exact Nat.le_refl 98
  induction h with
  | refl => exact Nat.le_refl _
  | step _ ih => exact Nat.le_trans ih (this _)
theorem filter_split {α : Type} (p : α → Bool) : ∀ l : List α, l.length = (l.filter p).length + (l.filter fun x => !p x).length
  | [] => rfl
  | x :: r => by
    have := filter_split p r
    rw [List.filter_cons, List.filter_cons]
    cases p x with
    | true => simp; omega
    | false => simp; omega
theorem flat_le {α β : Type} {f : α → List β} {m : Nat} : ∀ {l : List α}, (∀ x ∈ l, (f x).length ≤ m) → (l.flatMap f).length ≤ l.length * m
  | [], _ => by simp
  | x :: r, h => by
    rw [List.flatMap_cons, List.length_append, List.length_cons, Nat.add_mul]
    have := h x List.mem_cons_self
    have := flat_le fun y hy => h y (List.mem_cons_of_mem _ hy)
    omega
open Classical in
theorem cong_bound (G : Good T n k) : ∀ (q : Nat), q ≤ 6 → ∀ σ, CongT (stepsOf T) n (2 * k) σ → fixes n σ = q → ∀ l : List (List Nat), l.Nodup → (∀ ρ ∈ l, CongT (stepsOf T) n (2 * k) ρ ∧ Finer n σ ρ) → l.length ≤ fb q := by
  have n1 : 0 < n := G.form.n1
  have hF := stepsOf_form G
  intro q
  induction q using Nat.strongRecOn with
  | _ q ih =>
    intro hq σ Cs hfx l hl hc
    have q1 := repsZ_len Cs n1
    have bell := bell_all Cs hl hc
    rw [hfx] at bell q1
    by_cases hq3 : q ≤ 3
    · have : q = 1 ∨ q = 2 ∨ q = 3 := by omega
      rcases this with rfl | rfl | rfl
      · rw [parts1] at bell; exact bell
      · rw [parts2] at bell; exact bell
      · rw [parts3] at bell; exact bell
    · have hsplit := filter_split (fun ρ => decide (∀ y, y < n → at_ ρ y = 0 → at_ σ y = 0)) l
      have hl0 := bell_zero n1 Cs (l := l.filter fun ρ => decide (∀ y, y < n → at_ ρ y = 0 → at_ σ y = 0)) (hl.filter _) (fun ρ h => hc ρ (List.mem_filter.mp h).1) (fun ρ h => of_decide_eq_true (List.mem_filter.mp h).2)
      rw [show (repsZ n σ).length = q - 1 by omega] at hl0
      have hn1 : (l.filter fun ρ => !decide (∀ y, y < n → at_ ρ y = 0 → at_ σ y = 0)).Nodup := hl.filter _
      have hm1 : ∀ ρ ∈ l.filter fun ρ => !decide (∀ y, y < n → at_ ρ y = 0 → at_ σ y = 0), ρ ∈ l ∧ ∃ z, z < n ∧ at_ ρ z = 0 ∧ at_ σ z ≠ 0 := fun ρ h => by
        obtain ⟨a, b⟩ := List.mem_filter.mp h
        refine ⟨a, Classical.byContradiction fun hno => ?_⟩
        have : (∀ y, y < n → at_ ρ y = 0 → at_ σ y = 0) := fun y h1 h2 => Classical.byContradiction fun h3 => hno ⟨y, h1, h2, h3⟩
        rw [decide_eq_true this] at b
        cases b
      generalize (l.filter fun ρ => !decide (∀ y, y < n → at_ ρ y = 0 → at_ σ y = 0)) = l1 at hsplit hn1 hm1
      have hlt : ∀ y ∈ repsZ n σ, fixes n (joinZ (stepsOf T) n (2 * k) σ y) < q := fun y hy => by
        obtain ⟨hyn, hyr, hy0⟩ := repsZ_mem.mp hy
        obtain ⟨CJ, FJ, oJ, lJ⟩ := joinZ_ok (σ := σ) hF n1 hyn
        rw [← hfx]
        refine fixes_lt Cs CJ FJ hyn n1 oJ ?_
        rw [hyr, Cs.zero n1]
        exact hy0
      have main : l1.length ≤ max (fb (q - 1)) (1 + (q - 1) * (fb (q - 2) - 1)) := by
        by_cases hA : ∃ y ∈ repsZ n σ, fixes n (joinZ (stepsOf T) n (2 * k) σ y) + 1 = q
        · obtain ⟨y, hy, e⟩ := hA
          have hyn := (repsZ_mem.mp hy).1
          obtain ⟨CJ, FJ, oJ, lJ⟩ := joinZ_ok (σ := σ) hF n1 hyn
          have := ih (q - 1) (by omega) (by omega) _ CJ (by omega) l1 hn1 fun ρ hρ => by
            obtain ⟨a, z, z1, z2, z3⟩ := hm1 ρ hρ
            obtain ⟨c1, c2⟩ := hc ρ a
            exact ⟨c1, lJ ρ c1 c2 (near_one G Cs hy (by omega) c1 c2 z1 z2 z3)⟩
          omega
        · obtain ⟨CT, FT⟩ := top_cong hF
          have hs2 := filter_split (fun ρ => decide (ρ = List.replicate n 0)) l1
          have ht : (l1.filter fun ρ => decide (ρ = List.replicate n 0)).length ≤ 1 := by
            have := ndLe (hn1.filter (fun ρ => decide (ρ = List.replicate n 0))) (m := [List.replicate n 0]) fun x hx => by
              rw [of_decide_eq_true (List.mem_filter.mp hx).2]
              exact List.mem_cons_self
            simpa using this
          have hn2 := hn1.filter (fun ρ => !decide (ρ = List.replicate n 0))
          have hm2 : ∀ ρ ∈ l1.filter fun ρ => !decide (ρ = List.replicate n 0), ρ ∈ l1 ∧ ρ ≠ List.replicate n 0 := fun ρ h => by
            obtain ⟨a, b⟩ := List.mem_filter.mp h
            refine ⟨a, fun z => ?_⟩
            rw [decide_eq_true z] at b
            cases b
          generalize (l1.filter fun ρ => !decide (ρ = List.replicate n 0)) = l2 at hs2 hn2 hm2
          have hcov := ndLe hn2 (m := (repsZ n σ).flatMap fun y => l2.filter fun ρ => decide (Finer n (joinZ (stepsOf T) n (2 * k) σ y) ρ)) fun ρ hρ => by
            obtain ⟨a, z, z1, z2, z3⟩ := hm1 ρ (hm2 ρ hρ).1
            obtain ⟨c1, c2⟩ := hc ρ a
            obtain ⟨d1, d2⟩ := Cs.rep z z1
            have hy : at_ σ z ∈ repsZ n σ := repsZ_mem.mpr ⟨by omega, d2, z3⟩
            obtain ⟨CJ, FJ, oJ, lJ⟩ := joinZ_ok (σ := σ) hF n1 (y := at_ σ z) (by omega)
            refine List.mem_flatMap.mpr ⟨_, hy, List.mem_filter.mpr ⟨hρ, decide_eq_true (lJ ρ c1 c2 ?_)⟩⟩
            rw [at_finer Cs c2 z1, z2, c1.zero n1]
          have hpart := flat_le (m := fb (q - 2) - 1) (l := repsZ n σ) (f := fun y => l2.filter fun ρ => decide (Finer n (joinZ (stepsOf T) n (2 * k) σ y) ρ)) fun y hy => by
            have hyn := (repsZ_mem.mp hy).1
            obtain ⟨CJ, FJ, oJ, lJ⟩ := joinZ_ok (σ := σ) hF n1 hyn
            have hfl := hlt y hy
            have hne : fixes n (joinZ (stepsOf T) n (2 * k) σ y) + 1 ≠ q := fun z => hA ⟨y, hy, z⟩
            have h1 := ih _ hfl (by omega) _ CJ rfl ((l2.filter fun ρ => decide (Finer n (joinZ (stepsOf T) n (2 * k) σ y) ρ)) ++ [List.replicate n 0]) (nodup_snoc (hn2.filter _) fun z => (hm2 _ (List.mem_filter.mp z).1).2 rfl) fun ρ hρ => by
              rcases List.mem_append.mp hρ with h | h
              · obtain ⟨a, b⟩ := List.mem_filter.mp h
                exact ⟨(hc ρ (hm1 ρ (hm2 ρ a).1).1).1, of_decide_eq_true b⟩
              · rw [List.mem_singleton.mp h]
                exact ⟨CT, FT _ CJ⟩
            have h2 : fb (fixes n (joinZ (stepsOf T) n (2 * k) σ y)) ≤ fb (q - 2) := fb_mono (by omega)
            rw [List.length_append, List.length_singleton] at h1
            omega
          rw [show (repsZ n σ).length = q - 1 by omega] at hpart
          omega
      have : q = 4 ∨ q = 5 ∨ q = 6 := by omega
      rcases this with rfl | rfl | rfl
      · rw [show (4 - 1 : Nat) = 3 from rfl, parts3] at hl0
        have : max (fb (4 - 1)) (1 + (4 - 1) * (fb (4 - 2) - 1)) = 5 := by decide
        rw [this] at main
        show _ ≤ 10
        omega
      · rw [show (5 - 1 : Nat) = 4 from rfl, parts4] at hl0
        have : max (fb (5 - 1)) (1 + (5 - 1) * (fb (5 - 2) - 1)) = 17 := by decide
        rw [this] at main
        show _ ≤ 32
        omega
      · rw [show (6 - 1 : Nat) = 5 from rfl, parts5] at hl0
        have : max (fb (6 - 1)) (1 + (6 - 1) * (fb (6 - 2) - 1)) = 46 := by decide
        rw [this] at main
        show _ ≤ 98
        omega
/-- a monoid of at most six has at most a hundred congruences -/
theorem cong_count (G : Good T n k) (hn : n ≤ 6) : ∀ l : List (List Nat), l.Nodup → (∀ ρ ∈ l, CongT (stepsOf T) n (2 * k) ρ) → l.length ≤ 100 := by
  intro l hl hc
  have hF := stepsOf_form G
  obtain ⟨C, fi⟩ := cong_id hF hF.ent
  have h1 : fixes n (List.range n) ≤ n := by
    unfold fixes
    have := List.countP_le_length (p := fun x => at_ (List.range n) x == x) (l := List.range n)
    simpa using this
  have h2 := cong_bound G _ (by omega) _ C rfl l hl fun ρ hρ => ⟨hc ρ hρ, fi ρ (hc ρ hρ)⟩
  have h3 : fb (fixes n (List.range n)) ≤ fb 6 := fb_mono (by omega)
  have : fb 6 = 98 := rfl
  omega
end
end K95
set_option autoImplicit false
set_option linter.all false
namespace K95
/-! ### parts, quotients, division -/
section
variable {B P : Tab} {n2 k2 : Nat} {nums fP : List Nat} (G : Good B n2 k2) (hn : ∀ x ∈ nums, x < n2) (h1 : 1 ≤ nums.length) (h6 : nums.length ≤ 6) (Bf : Bfs (nxM B nums) nums.length 0 fP P) (hl : P.length = fP.length)
include G hn h1 h6 Bf hl
theorem part_lt {a : Nat} (ha : a < fP.length) : at_ fP a < n2 := (gen_good G hn h1 h6 Bf hl).2.2 _ (List.mem_of_getElem? (atGet ha))
theorem part_hom {a b : Nat} (ha : a < fP.length) (hb : b < fP.length) : at_ fP (mul P a b) = mul B (at_ fP a) (at_ fP b) := by
  have GP := (gen_good G hn h1 h6 Bf hl).1
  obtain ⟨p1, p2⟩ := GP.path_ok hb
  have e1 := Bf.run_at hl (path P b) p2 (atGet ha)
  have e2 := Bf.val_at hl p2
  rw [p1] at e2
  have e3 := foldl_mul G hn (path P b) (part_lt G hn h1 h6 Bf hl ha) G.form.n1
  rw [mul_one] at e3
  rw [e3] at e1
  rw [at_of e2]
  exact at_of e1
theorem part_zero : at_ fP 0 = 0 := at_of Bf.h0
/-- the part of closed numbers -/
theorem part_all {p : Nat → Prop} (p0 : p 0) (pn : ∀ x ∈ nums, p x) (pm : ∀ x y, p x → p y → p (mul B x y)) (pa : ∀ x, p x → x = 0 ∨ x ∈ nums) (x : Nat) : x ∈ fP ↔ p x := by
  constructor
  · intro h
    obtain ⟨w, hw, rfl⟩ := Bf.rch x h
    have key : ∀ (w : List Nat) (b : Nat), Letters nums.length w → p b → p (w.foldl (nxM B nums) b) := by
      intro w
      induction w with
      | nil => intro b _ h; exact h
      | cons c w ih =>
        intro b hw hb
        have hc := hw.head
        refine ih _ hw.tail (pm b _ hb (pn _ ?_))
        rw [List.getD_eq_getElem?_getD, List.getElem?_eq_getElem hc]
        exact List.getElem_mem hc
    exact key w 0 hw p0
  · intro h
    rcases pa x h with rfl | h
    · exact List.mem_of_getElem? Bf.h0
    · obtain ⟨c, hc⟩ := List.mem_iff_getElem?.mp h
      have hcl := (List.getElem?_eq_some_iff.mp hc).1
      have := bfs_all Bf hl (w := [c]) (Letters.one hcl)
      have e : [c].foldl (nxM B nums) 0 = x := by
        show nxM B nums 0 c = x
        unfold nxM
        rw [List.getD_eq_getElem?_getD, hc]
        exact G.one_mul (hn x h)
      rw [e] at this
      exact this
end
section
variable {P Q : Tab} {m k : Nat} {ρ fQ : List Nat} (G : Good P m k) (C : CongT (stepsOf P) m (2 * k) ρ) (Bq : Bfs (nxQ P ρ) k 0 fQ Q) (hq : Q.length = fQ.length)
include G C Bq hq
theorem quot_mem (x : Nat) : x ∈ fQ ↔ ∃ i, i < m ∧ at_ ρ i = x := by
  constructor
  · intro h
    obtain ⟨w, hw, rfl⟩ := Bq.rch x h
    exact ⟨val P w, G.form.run_lt G.form.n1 hw, (nxQ_val G C hw).symm⟩
  · rintro ⟨i, hi, rfl⟩
    obtain ⟨p1, p2⟩ := G.path_ok hi
    have := bfs_all Bq hq p2
    rw [nxQ_val G C p2, p1] at this
    exact this
theorem quot_at {q : Nat} (h : q < fQ.length) : at_ fQ q < m ∧ at_ ρ (at_ fQ q) = at_ fQ q := by
  obtain ⟨i, hi, e⟩ := (quot_mem G C Bq hq _).mp (List.mem_of_getElem? (atGet h))
  rw [← e]
  exact ⟨cls_lt G C hi, cls_idem G C hi⟩
theorem quot_hom {p q : Nat} (hp : p < fQ.length) (hqq : q < fQ.length) : at_ fQ (mul Q p q) = at_ ρ (mul P (at_ fQ p) (at_ fQ q)) := by
  have GQ := (quot_good G C Bq hq).1
  obtain ⟨p1, p2⟩ := GQ.path_ok hqq
  obtain ⟨a1, a2⟩ := quot_at G C Bq hq hp
  have e1 := Bq.run_at hq (path Q q) p2 (atGet hp)
  rw [foldl_nxQ G C (path Q q) p2 a1 a1 a2 a2] at e1
  have e2 := Bq.val_at hq p2
  rw [p1, nxQ_val G C p2] at e2
  have hv := G.form.run_lt G.form.n1 p2
  rw [at_of e2]
  rw [G.run_eq a1 p2] at e1
  refine (at_of e1).trans ?_
  exact cong_mulL G C hv (cls_lt G C hv) a1 (cls_idem G C hv).symm
theorem quot_zero : at_ fQ 0 = 0 := at_of Bq.h0
theorem at_inj {p q : Nat} (hp : p < fQ.length) (hqq : q < fQ.length) (e : at_ fQ p = at_ fQ q) : p = q := by
  have e1 := idx_eq Bq.nd (atGet hp)
  have e2 := idx_eq Bq.nd (atGet hqq)
  rw [e] at e1
  omega
end
theorem img_snoc {A Q : Tab} {imgs : List Nat} (w : List Nat) (c : Nat) : (w ++ [c]).foldl (nxM Q imgs) 0 = nxM Q imgs (w.foldl (nxM Q imgs) 0) c := by
  rw [List.foldl_append] <;> rfl
section
variable {A B P : Tab} {n1 k1 n2 k2 : Nat} {nums fP : List Nat} (GA : Good A n1 k1) (G : Good B n2 k2) (hn : ∀ x ∈ nums, x < n2) (h1 : 1 ≤ nums.length) (h6 : nums.length ≤ 6) (Bf : Bfs (nxM B nums) nums.length 0 fP P) (hl : P.length = fP.length)
include GA G hn h1 h6 Bf hl
/-- what is alike to a quotient of a part divides -/
theorem parts_sound {ρ fQ imgs : List Nat} {Q : Tab} (C : CongT (stepsOf P) fP.length (2 * nums.length) ρ) (Bq : Bfs (nxQ P ρ) nums.length 0 fQ Q) (hq : Q.length = fQ.length) (hi : imgs ∈ rowsL fQ.length k1) (I : IsoOk A Q n1 k1 imgs) :
    ∃ row ∈ rowsL n2 k1, LedRow A B row := by
  have GP := (gen_good G hn h1 h6 Bf hl).1
  have GQ := (quot_good GP C Bq hq).1
  obtain ⟨il, ilt⟩ := rowsL_mem.mp hi
  have m0 : 0 < fP.length := GP.form.n1
  have q0 : 0 < fQ.length := GQ.form.n1
  have hrow : ∀ x ∈ imgs.map (fun i => at_ fP (at_ fQ i)), x < n2 := fun x hx => by
    obtain ⟨i, hi, rfl⟩ := List.mem_map.mp hx
    exact part_lt G hn h1 h6 Bf hl (quot_at GP C Bq hq (ilt i hi)).1
  have imlt : ∀ w, Letters k1 w → w.foldl (nxM Q imgs) 0 < fQ.length := fun w _ => foldl_lt GQ ilt w q0
  have hom : ∀ w, Letters k1 w → w.foldl (nxM Q imgs) 0 = img A Q imgs (val A w) := by
    intro w
    induction w using snoc_ind with
    | h0 =>
      intro _
      show 0 = img A Q imgs 0
      unfold img
      rw [path_zero] <;> rfl
    | h1 w c ih =>
      intro hw
      have hv := GA.form.run_lt GA.form.n1 hw.left
      rw [img_snoc (A := A), ih hw.left, I.hom _ c hv (hw.right.head)]
      show _ = img A Q imgs (run A 0 (w ++ [c]))
      rw [run_snoc]
  have inv : ∀ w, Letters k1 w → ∃ a, a < fP.length ∧ at_ fP a = w.foldl (nxM B (imgs.map fun i => at_ fP (at_ fQ i))) 0 ∧ at_ fQ (w.foldl (nxM Q imgs) 0) = at_ ρ a := by
    intro w
    induction w using snoc_ind with
    | h0 =>
      intro _
      refine ⟨0, m0, part_zero G hn h1 h6 Bf hl, ?_⟩
      show at_ fQ 0 = at_ ρ 0
      rw [quot_zero GP C Bq hq, C.zero m0]
    | h1 w c ih =>
      intro hw
      have hc : c < k1 := hw.right.head
      obtain ⟨a, a1, a2, a3⟩ := ih hw.left
      have hp := imlt w hw.left
      have ei : imgs[c]? = some (imgs.getD c 0) := by
        rw [List.getD_eq_getElem?_getD, List.getElem?_eq_getElem (by omega)] <;> rfl
      have hib := ilt _ (List.mem_of_getElem? ei)
      obtain ⟨b1, b2⟩ := quot_at GP C Bq hq hib
      refine ⟨mul P a (at_ fQ (imgs.getD c 0)), GP.mul_lt a1 b1, ?_, ?_⟩
      · rw [part_hom G hn h1 h6 Bf hl a1 b1, List.foldl_append, ← a2]
        show _ = nxM B _ _ c
        unfold nxM
        rw [show (imgs.map fun i => at_ fP (at_ fQ i)).getD c 0 = at_ fP (at_ fQ (imgs.getD c 0)) by rw [List.getD_eq_getElem?_getD, List.getElem?_map, ei] <;> rfl]
      · rw [img_snoc (A := A)]
        show at_ fQ (mul Q _ (imgs.getD c 0)) = _
        rw [quot_hom GP C Bq hq hp hib, a3]
        exact cong_mulR GP C (cls_lt GP C a1) a1 b1 (cls_idem GP C a1)
  have val_ : ∀ w, Letters k1 w → ((List.range n1).map (img A Q imgs)).idxOf (fQ.idxOf (at_ ρ (fP.idxOf (w.foldl (nxM B (imgs.map fun i => at_ fP (at_ fQ i))) 0)))) = val A w := fun w hw => by
    obtain ⟨a, a1, a2, a3⟩ := inv w hw
    rw [← a2, idx_eq Bf.nd (atGet a1), ← a3, idx_eq Bq.nd (atGet (imlt w hw)), hom w hw]
    refine idx_eq I.inj ?_
    rw [List.getElem?_map, List.getElem?_range (GA.form.run_lt GA.form.n1 hw)] <;> rfl
  refine ⟨imgs.map fun i => at_ fP (at_ fQ i), rowsL_mem.mpr ⟨by simp [il], hrow⟩, ?_⟩
  unfold LedRow
  rw [show (imgs.map fun i => at_ fP (at_ fQ i)).length = k1 by simp [il]]
  exact ⟨fun x => ((List.range n1).map (img A Q imgs)).idxOf (fQ.idxOf (at_ ρ (fP.idxOf x))), val_ [] Letters.nil, fun w hw => val_ w hw⟩
end
/-- what the law's search meets at a congruence -/
def Hit (A P : Tab) (n1 k1 k : Nat) (ρ : List Nat) : Prop := (∀ L : List Int, L.Nodup → (∀ z, z ∈ L ↔ z ∈ ρ.map fun n : Nat => (n : Int)) → L.length = n1) ∧
  ∀ (fQ : List Nat) (Q : Tab), Bfs (nxQ P ρ) k 0 fQ Q → Q.length = fQ.length → fQ.length = n1 ∧ ∃ imgs ∈ rowsL fQ.length k1, IsoOk A Q n1 k1 imgs
/-- what a row generates -/
def Gen (B : Tab) (k1 : Nat) (row : List Nat) (x : Nat) : Prop := ∃ w, Letters k1 w ∧ w.foldl (nxM B row) 0 = x
theorem gen_closed {B : Tab} {n2 k2 k1 : Nat} {row : List Nat} (G : Good B n2 k2) (hr : ∀ x ∈ row, x < n2) (hk : row.length = k1) : Gen B k1 row 0 ∧ (∀ x, Gen B k1 row x → x < n2) ∧ (∀ x y, Gen B k1 row x → Gen B k1 row y → Gen B k1 row (mul B x y)) ∧ ∀ c, c < k1 → Gen B k1 row (row.getD c 0) := by
  refine ⟨⟨[], Letters.nil, rfl⟩, fun x h => ?_, fun x y h1 h2 => ?_, fun c hc => ?_⟩
  · obtain ⟨w, _, rfl⟩ := h
    exact foldl_lt G hr w G.form.n1
  · obtain ⟨u, hu, rfl⟩ := h1
    obtain ⟨v, hv, rfl⟩ := h2
    refine ⟨u ++ v, Letters.app hu hv, ?_⟩
    have h := foldl_mul G hr v (foldl_lt G hr u G.form.n1) (b := 0) G.form.n1
    rw [mul_one] at h
    rw [List.foldl_append]
    exact h
  · refine ⟨[c], Letters.one hc, ?_⟩
    show nxM B row 0 c = _
    unfold nxM
    exact G.one_mul (getD_lt G hr c)
section
variable {A B P : Tab} {n1 k1 n2 k2 : Nat} {nums fP row : List Nat} (GA : Good A n1 k1) (G : Good B n2 k2) (hn : ∀ x ∈ nums, x < n2) (h1 : 1 ≤ nums.length) (h6 : nums.length ≤ 6) (Bf : Bfs (nxM B nums) nums.length 0 fP P) (hl : P.length = fP.length)
include GA G hn h1 h6 Bf hl
/-- what a led row generates has a congruence that is met -/
theorem parts_complete (hr : ∀ x ∈ row, x < n2) (hk : row.length = k1) (L : LedRow A B row) (hS : ∀ x, x ∈ fP ↔ Gen B k1 row x) : ∃ ρ, CongT (stepsOf P) fP.length (2 * nums.length) ρ ∧ Hit A P n1 k1 nums.length ρ := by
  have GP := (gen_good G hn h1 h6 Bf hl).1
  have m0 : 0 < fP.length := GP.form.n1
  obtain ⟨g0, glt, gmul, glet⟩ := gen_closed G hr hk
  obtain ⟨f, f0, hf⟩ := L
  rw [hk] at hf
  -- f goes with the products of what is generated
  have flt : ∀ x, Gen B k1 row x → f x < n1 := fun x h => by
    obtain ⟨w, hw, rfl⟩ := h
    rw [hf w hw]
    exact GA.form.run_lt GA.form.n1 hw
  have fmul : ∀ x y, Gen B k1 row x → Gen B k1 row y → f (mul B x y) = mul A (f x) (f y) := fun x y hx hy => by
    obtain ⟨u, hu, rfl⟩ := hx
    obtain ⟨v, hv, rfl⟩ := hy
    have h := foldl_mul G hr v (foldl_lt G hr u G.form.n1) (b := 0) G.form.n1
    rw [mul_one] at h
    rw [← h, ← List.foldl_append, hf _ (Letters.app hu hv), hf u hu, hf v hv]
    exact (GA.mul_val hu hv).symm
  have flet : ∀ c, c < k1 → f (row.getD c 0) = step A 0 c := fun c hc => by
    have := hf [c] (Letters.one hc)
    have e : [c].foldl (nxM B row) 0 = row.getD c 0 := by
      show nxM B row 0 c = _
      unfold nxM
      exact G.one_mul (getD_lt G hr c)
    rw [e] at this
    exact this
  have gat : ∀ a, a < fP.length → Gen B k1 row (at_ fP a) := fun a ha => (hS _).mp (List.mem_of_getElem? (atGet ha))
  have gof : ∀ x, Gen B k1 row x → ∃ a, a < fP.length ∧ at_ fP a = x := fun x hx => by
    have h := (hS x).mpr hx
    exact ⟨_, idx_lt h, at_of (idx_get h)⟩
  have gm : ∀ a b, a < fP.length → b < fP.length → f (at_ fP (mul P a b)) = mul A (f (at_ fP a)) (f (at_ fP b)) := fun a b ha hb => by
    rw [part_hom G hn h1 h6 Bf hl ha hb]
    exact fmul _ _ (gat a ha) (gat b hb)
  -- the kernel
  have hE : ClE (stepsOf P) fP.length (2 * nums.length) (fun a b => f (at_ fP a) = f (at_ fP b)) := by
    refine ⟨⟨fun _ => rfl, fun h => h.symm, fun h g => h.trans g⟩, fun x y hx hy e j hj => ?_⟩
    show f (at_ fP (step (stepsOf P) x j)) = f (at_ fP (step (stepsOf P) y j))
    rw [stepsOf_at GP hx hj, stepsOf_at GP hy hj]
    by_cases hjk : j < nums.length
    · rw [if_pos hjk, if_pos hjk, GP.step_mul hx hjk, GP.step_mul hy hjk]
      have hs := GP.form.step_lt m0 hjk
      rw [gm _ _ hx hs, gm _ _ hy hs, e]
    · rw [if_neg hjk, if_neg hjk]
      have hs := GP.form.step_lt m0 (show j - nums.length < nums.length by omega)
      rw [gm _ _ hs hx, gm _ _ hs hy, e]
  have C := canon_cong (stepsOf_form GP) hE
  have ker : ∀ {x y}, x < fP.length → y < fP.length → (at_ (canon fP.length fun a b => f (at_ fP a) = f (at_ fP b)) x = at_ (canon fP.length fun a b => f (at_ fP a) = f (at_ fP b)) y ↔ f (at_ fP x) = f (at_ fP y)) := fun hx hy => canon_iff hE.eq hx hy
  generalize (canon fP.length fun a b => f (at_ fP a) = f (at_ fP b)) = ρ at C ker
  have kat : ∀ x, x < fP.length → f (at_ fP (at_ ρ x)) = f (at_ fP x) := fun x hx => (ker (cls_lt GP C hx) hx).mp (cls_idem GP C hx)
  -- how many classes
  have count : ∀ M : List Nat, M.Nodup → (∀ z, z ∈ M ↔ ∃ i, i < fP.length ∧ at_ ρ i = z) → M.length = n1 := fun M hM hm => by
    have hin : ∀ z ∈ M, z < fP.length ∧ at_ ρ z = z := fun z hz => by
      obtain ⟨i, hi, e⟩ := (hm z).mp hz
      rw [← e]
      exact ⟨cls_lt GP C hi, cls_idem GP C hi⟩
    have a1 : (M.map fun z => f (at_ fP z)).Nodup := ndMap (fun a ha b hb e => by
      obtain ⟨c1, c2⟩ := hin a ha
      obtain ⟨d1, d2⟩ := hin b hb
      have := (ker c1 d1).mpr e
      omega) hM
    have a2 := ndLe a1 (m := List.range n1) fun x hx => by
      obtain ⟨z, hz, rfl⟩ := List.mem_map.mp hx
      exact List.mem_range.mpr (flt _ (gat z (hin z hz).1))
    have a3 := ndLe (List.nodup_range (n := n1)) (m := M.map fun z => f (at_ fP z)) fun y hy => by
      obtain ⟨p1, p2⟩ := GA.path_ok (List.mem_range.mp hy)
      obtain ⟨a, ha, e⟩ := gof _ ⟨path A y, p2, rfl⟩
      refine List.mem_map.mpr ⟨at_ ρ a, (hm _).mpr ⟨a, ha, rfl⟩, ?_⟩
      rw [kat a ha, e, hf _ p2]
      exact p1
    simp at a2 a3
    omega
  refine ⟨ρ, C, fun M hM hm => ?_, fun fQ Q Bq hq => ?_⟩
  · have := count (M.map Int.toNat) (ndMap (fun a ha b hb e => by
      obtain ⟨i, _, rfl⟩ := List.mem_map.mp ((hm a).mp ha)
      obtain ⟨j, _, rfl⟩ := List.mem_map.mp ((hm b).mp hb)
      simp at e
      rw [e]) hM) fun z => by
        rw [List.mem_map]
        constructor
        · rintro ⟨x, hx, rfl⟩
          obtain ⟨i, hi, rfl⟩ := List.mem_map.mp ((hm x).mp hx)
          obtain ⟨j, hj⟩ := List.mem_iff_getElem?.mp hi
          exact ⟨j, by rw [← C.len]; exact (List.getElem?_eq_some_iff.mp hj).1, by simpa using at_of hj⟩
        · rintro ⟨i, hi, rfl⟩
          refine ⟨(at_ ρ i : Nat), (hm _).mpr (List.mem_map.mpr ⟨_, List.mem_of_getElem? (atGet (by rw [C.len]; exact hi)), rfl⟩), by simp⟩
    simpa using this
  · have GQ := (quot_good GP C Bq hq).1
    have q0 : 0 < fQ.length := GQ.form.n1
    have hqn : fQ.length = n1 := count fQ Bq.nd (quot_mem GP C Bq hq)
    have qat := fun {q} (h : q < fQ.length) => quot_at GP C Bq hq h
    -- back from the quotient
    have binj : ∀ {p q}, p < fQ.length → q < fQ.length → f (at_ fP (at_ fQ p)) = f (at_ fP (at_ fQ q)) → p = q := fun {p q} hp hqq e => by
      obtain ⟨a1, a2⟩ := qat hp
      obtain ⟨b1, b2⟩ := qat hqq
      have := (ker a1 b1).mpr e
      exact at_inj GP C Bq hq hp hqq (by omega)
    have bmul : ∀ {p q}, p < fQ.length → q < fQ.length → f (at_ fP (at_ fQ (mul Q p q))) = mul A (f (at_ fP (at_ fQ p))) (f (at_ fP (at_ fQ q))) := fun {p q} hp hqq => by
      obtain ⟨a1, a2⟩ := qat hp
      obtain ⟨b1, b2⟩ := qat hqq
      rw [quot_hom GP C Bq hq hp hqq, kat _ (GP.mul_lt a1 b1), gm _ _ a1 b1]
    have b0 : f (at_ fP (at_ fQ 0)) = 0 := by rw [quot_zero GP C Bq hq, part_zero G hn h1 h6 Bf hl, f0]
    -- the letters' images
    have him : ∀ c, c < k1 → ∃ q, q < fQ.length ∧ f (at_ fP (at_ fQ q)) = step A 0 c := fun c hc => by
      obtain ⟨a, ha, e⟩ := gof _ (glet c hc)
      have hm := (quot_mem GP C Bq hq (at_ ρ a)).mpr ⟨a, ha, rfl⟩
      refine ⟨_, idx_lt hm, ?_⟩
      rw [at_of (idx_get hm), kat a ha, e, flet c hc]
    have him2 : ∀ c, ∃ q, c < k1 → q < fQ.length ∧ f (at_ fP (at_ fQ q)) = step A 0 c := fun c => by
      by_cases h : c < k1
      · obtain ⟨q, hq⟩ := him c h
        exact ⟨q, fun _ => hq⟩
      · exact ⟨0, fun z => absurd z h⟩
    refine ⟨hqn, (List.range k1).map fun c => Classical.choose (him2 c), rowsL_mem.mpr ⟨by simp, fun x hx => ?_⟩, ?_⟩
    · obtain ⟨c, hc, rfl⟩ := List.mem_map.mp hx
      exact (Classical.choose_spec (him2 c) (List.mem_range.mp hc)).1
    · have hget : ∀ c, c < k1 → ((List.range k1).map fun c => Classical.choose (him2 c)).getD c 0 < fQ.length ∧ f (at_ fP (at_ fQ (((List.range k1).map fun c => Classical.choose (him2 c)).getD c 0))) = step A 0 c := fun c hc => by
        rw [getD_map_range hc]
        exact Classical.choose_spec (him2 c) hc
      have ilt : ∀ x ∈ ((List.range k1).map fun c => Classical.choose (him2 c)), x < fQ.length := fun x hx => by
        obtain ⟨c, hc, rfl⟩ := List.mem_map.mp hx
        exact (Classical.choose_spec (him2 c) (List.mem_range.mp hc)).1
      generalize ((List.range k1).map fun c => Classical.choose (him2 c)) = imgs at hget ilt
      have imlt : ∀ w : List Nat, w.foldl (nxM Q imgs) 0 < fQ.length := fun w => foldl_lt GQ ilt w q0
      have bnx : ∀ {p c}, p < fQ.length → c < k1 → f (at_ fP (at_ fQ (nxM Q imgs p c))) = step A (f (at_ fP (at_ fQ p))) c := fun {p c} hp hc => by
        show f (at_ fP (at_ fQ (mul Q p (imgs.getD c 0)))) = _
        rw [bmul hp (hget c hc).1, (hget c hc).2]
        exact (GA.step_mul (flt _ (gat _ (qat hp).1)) hc).symm
      have back : ∀ w, Letters k1 w → f (at_ fP (at_ fQ (w.foldl (nxM Q imgs) 0))) = val A w := by
        intro w
        induction w using snoc_ind with
        | h0 =>
          intro _
          exact b0
        | h1 w c ih =>
          intro hw
          rw [img_snoc (A := A), bnx (imlt w) hw.right.head, ih hw.left]
          show _ = run A 0 (w ++ [c])
          rw [run_snoc]
      have bimg : ∀ x, x < n1 → f (at_ fP (at_ fQ (img A Q imgs x))) = x := fun x hx => by
        obtain ⟨p1, p2⟩ := GA.path_ok hx
        exact (back _ p2).trans p1
      refine ⟨ndMap (fun a ha b hb e => ?_) List.nodup_range, fun x c hx hc => ?_⟩
      · have e1 := bimg a (List.mem_range.mp ha)
        have e2 := bimg b (List.mem_range.mp hb)
        rw [e, e2] at e1
        exact e1.symm
      · have hix : img A Q imgs x < fQ.length := imlt (path A x)
        have hiy : img A Q imgs (step A x c) < fQ.length := imlt _
        refine binj (nxM_lt GQ ilt hix c) hiy ?_
        rw [bnx hix hc]
        show step A (f (at_ fP (at_ fQ (img A Q imgs x)))) c = f (at_ fP (at_ fQ (img A Q imgs (step A x c))))
        rw [bimg x hx, bimg _ (GA.form.step_lt hx hc)]
end
end K95
set_option autoImplicit false
set_option linter.all false
namespace K95
/-! ### all closed sets -/
/-- a closed set, told in order -/
structure ClS (B : Tab) (n : Nat) (S : List Nat) : Prop where
  asc : S.Pairwise (· < ·)
  z : 0 ∈ S
  lt : ∀ x ∈ S, x < n
  cl : ∀ x ∈ S, ∀ y ∈ S, mul B x y ∈ S
/-- the least closed one around S and x -/
structure ClosOf (B : Tab) (S : List Nat) (x : Nat) (S' : List Nat) : Prop where
  new : x ∈ S'
  sub : ∀ y ∈ S, y ∈ S'
  least : ∀ p : Nat → Prop, (∀ a b, p a → p b → p (mul B a b)) → (∀ y ∈ S, p y) → p x → ∀ y ∈ S', p y
section
variable {B : Tab} {n k : Nat}
theorem cls_zero (G : Good B n k) : ClS B n [0] := by
  refine ⟨by simp, by simp, fun x hx => ?_, fun x hx y hy => ?_⟩
  · rw [List.mem_singleton.mp hx]
    exact G.form.n1
  · rw [List.mem_singleton.mp hx, List.mem_singleton.mp hy, mul_one]
    simp
/-- every closed part is told -/
theorem cls_all {Ss : List (List Nat)} (h0 : [0] ∈ Ss) (hc : ∀ S ∈ Ss, ClS B n S) (hn : ∀ S ∈ Ss, ∀ x, x < n → x ∉ S → ∃ S' ∈ Ss, ClosOf B S x S') {p : Nat → Prop} (p0 : p 0) (plt : ∀ x, p x → x < n) (pm : ∀ a b, p a → p b → p (mul B a b)) :
    ∃ S ∈ Ss, ∀ x, x ∈ S ↔ p x := by
  have main : ∀ (m : Nat) (S : List Nat), S ∈ Ss → (∀ x ∈ S, p x) → n - S.length = m → ∃ S ∈ Ss, ∀ x, x ∈ S ↔ p x := by
    intro m
    induction m using Nat.strongRecOn with
    | _ m ih =>
      intro S hS hp hm
      by_cases hall : ∀ x, p x → x ∈ S
      · exact ⟨S, hS, fun x => ⟨hp x, hall x⟩⟩
      · have ⟨x, hx, hxS⟩ : ∃ x, p x ∧ x ∉ S := Classical.byContradiction fun hno => hall fun x hx => Classical.byContradiction fun h => hno ⟨x, hx, h⟩
        obtain ⟨S', hS', C⟩ := hn S hS x (plt x hx) hxS
        have h1 := ndLe (l := x :: S) (m := S') (List.nodup_cons.mpr ⟨hxS, asc_nodup (hc S hS).asc⟩) fun y hy => by
          rcases List.mem_cons.mp hy with rfl | hy
          · exact C.new
          · exact C.sub y hy
        have h2 := ndLe (l := S') (m := List.range n) (asc_nodup (hc S' hS').asc) fun y hy => List.mem_range.mpr ((hc S' hS').lt y hy)
        simp at h1 h2
        exact ih (n - S'.length) (by omega) S' hS' (C.least p pm hp hx) rfl
  exact main _ [0] h0 (fun x hx => by rw [List.mem_singleton.mp hx]; exact p0) rfl
theorem asc_ext : ∀ {S T : List Nat}, S.Pairwise (· < ·) → T.Pairwise (· < ·) → (∀ x, x ∈ S ↔ x ∈ T) → S = T
  | [], [], _, _, _ => rfl
  | [], b :: T, _, _, h => absurd ((h b).mpr List.mem_cons_self) List.not_mem_nil
  | a :: S, [], _, _, h => absurd ((h a).mp List.mem_cons_self) List.not_mem_nil
  | a :: S, b :: T, hs, ht, h => by
    obtain ⟨s1, s2⟩ := List.pairwise_cons.mp hs
    obtain ⟨t1, t2⟩ := List.pairwise_cons.mp ht
    have e : a = b := by
      rcases List.mem_cons.mp ((h a).mp List.mem_cons_self) with e | e
      · exact e
      · rcases List.mem_cons.mp ((h b).mpr List.mem_cons_self) with e2 | e2
        · exact e2.symm
        · have := t1 a e
          have := s1 b e2
          omega
    subst e
    rw [asc_ext s2 t2 fun x => ⟨fun hx => ?_, fun hx => ?_⟩]
    · rcases List.mem_cons.mp ((h x).mp (List.mem_cons_of_mem _ hx)) with e | e
      · subst e
        have := s1 x hx
        omega
      · exact e
    · rcases List.mem_cons.mp ((h x).mpr (List.mem_cons_of_mem _ hx)) with e | e
      · subst e
        have := t1 x hx
        omega
      · exact e
/-- there are not many -/
theorem cls_count (hn : n ≤ 6) {Ss : List (List Nat)} (hd : Ss.Nodup) (hc : ∀ S ∈ Ss, ClS B n S) : Ss.length ≤ 32 := by
  have h1 : (Ss.map fun S => (List.range 5).map fun i => if i + 1 ∈ S then 1 else 0).Nodup := by
    refine ndMap (fun S hS T hT e => ?_) hd
    have C := hc S hS
    have D := hc T hT
    refine asc_ext C.asc D.asc fun x => ?_
    cases x with
    | zero => exact ⟨fun _ => D.z, fun _ => C.z⟩
    | succ i =>
      by_cases hi : i < 5
      · have e1 := congrArg (fun z => at_ z i) e
        simp only [map_range_at hi] at e1
        by_cases a : i + 1 ∈ S <;> by_cases b : i + 1 ∈ T
        · exact ⟨fun _ => b, fun _ => a⟩
        · rw [if_pos a, if_neg b] at e1
          cases e1
        · rw [if_neg a, if_pos b] at e1
          cases e1
        · exact ⟨fun z => absurd z a, fun z => absurd z b⟩
      · exact ⟨fun z => by have := C.lt _ z; omega, fun z => by have := D.lt _ z; omega⟩
  have h2 := ndLe h1 (m := rowsL 2 5) fun v hv => by
    obtain ⟨S, hS, rfl⟩ := List.mem_map.mp hv
    refine rowsL_mem.mpr ⟨by simp, fun x hx => ?_⟩
    obtain ⟨i, _, rfl⟩ := List.mem_map.mp hx
    split <;> omega
  rw [rowsL_len] at h2
  simpa using h2
/-! ### the closure, turn by turn -/
/-- what holds of the growing list -/
structure Gr (B : Tab) (n : Nat) (S : List Nat) (x : Nat) (M : List Nat) : Prop where
  nd : M.Nodup
  lt : ∀ y ∈ M, y < n
  sub : ∀ y ∈ S, y ∈ M
  new : x ∈ M
  least : ∀ p : Nat → Prop, (∀ a b, p a → p b → p (mul B a b)) → (∀ y ∈ S, p y) → p x → ∀ y ∈ M, p y
def Cl (B : Tab) (M : List Nat) : Prop := ∀ x ∈ M, ∀ y ∈ M, mul B x y ∈ M
theorem Gr.start {S : List Nat} {x : Nat} (C : ClS B n S) (hx : x < n) (h : x ∉ S) : Gr B n S x (S ++ [x]) := by
  refine ⟨nodup_snoc (asc_nodup C.asc) h, fun y hy => ?_, fun y hy => List.mem_append_left _ hy, by simp, fun p _ h1 h2 y hy => ?_⟩
  · rcases List.mem_append.mp hy with h | h
    · exact C.lt y h
    · rw [List.mem_singleton.mp h]; exact hx
  · rcases List.mem_append.mp hy with h | h
    · exact h1 y h
    · rw [List.mem_singleton.mp h]; exact h2
/-- one of the list's first members times all -/
structure Gi (B : Tab) (n : Nat) (S : List Nat) (x : Nat) (M0 M : List Nat) (j : Nat) : Prop where
  g : Gr B n S x M
  sub : ∀ y ∈ M0, y ∈ M
  done : ∀ (i a : Nat), i < j → M0[i]? = some a → ∀ b ∈ M0, mul B a b ∈ M
  still : Cl B M0 → M = M0
  len : M.length = M0.length → M = M0
  le : M0.length ≤ M.length
theorem Gi.start {S M : List Nat} {x : Nat} (g : Gr B n S x M) : Gi B n S x M M 0 := ⟨g, fun _ h => h, fun i a h => by omega, fun _ => rfl, fun _ => rfl, Nat.le_refl _⟩
theorem Gi.step {S M0 M L : List Nat} {x j a : Nat} (G : Good B n k) (g : Gi B n S x M0 M j) (ha : M0[j]? = some a) (hL : L.Nodup) (hm : ∀ z, z ∈ L ↔ ∃ b ∈ M, mul B a b = z) : Gi B n S x M0 (M ++ L.filter fun z => decide (z ∉ M)) (j + 1) := by
  have ham := g.sub a (List.mem_of_getElem? ha)
  refine ⟨⟨?_, fun y hy => ?_, fun y hy => List.mem_append_left _ (g.g.sub y hy), List.mem_append_left _ g.g.new, fun p pm h1 h2 y hy => ?_⟩, fun y hy => List.mem_append_left _ (g.sub y hy), fun i a' hi hia b hb => ?_, fun hc => ?_, fun hl => ?_, ?_⟩
  · rw [List.nodup_append]
    refine ⟨g.g.nd, hL.filter _, fun u hu v hv e => ?_⟩
    have := of_decide_eq_true (List.mem_filter.mp hv).2
    exact this (e ▸ hu)
  · rcases List.mem_append.mp hy with h | h
    · exact g.g.lt y h
    · obtain ⟨b, hb, rfl⟩ := (hm y).mp (List.mem_filter.mp h).1
      exact G.mul_lt (g.g.lt a ham) (g.g.lt b hb)
  · rcases List.mem_append.mp hy with h | h
    · exact g.g.least p pm h1 h2 y h
    · obtain ⟨b, hb, rfl⟩ := (hm y).mp (List.mem_filter.mp h).1
      exact pm _ _ (g.g.least p pm h1 h2 a ham) (g.g.least p pm h1 h2 b hb)
  · by_cases hij : i < j
    · exact List.mem_append_left _ (g.done i a' hij hia b hb)
    · have : i = j := by omega
      subst this
      rw [ha] at hia
      cases hia
      by_cases hin : mul B a b ∈ M
      · exact List.mem_append_left _ hin
      · exact List.mem_append_right _ (List.mem_filter.mpr ⟨(hm _).mpr ⟨b, g.sub b hb, rfl⟩, decide_eq_true hin⟩)
  · have e := g.still hc
    subst e
    have : (L.filter fun z => decide (z ∉ M)) = [] := by
      rw [List.filter_eq_nil_iff]
      intro z hz
      obtain ⟨b, hb, rfl⟩ := (hm z).mp hz
      simpa using hc a ham b hb
    rw [this, List.append_nil]
  · rw [List.length_append] at hl
    have := g.le
    have e := g.len (by omega)
    have : (L.filter fun z => decide (z ∉ M)) = [] := List.eq_nil_of_length_eq_zero (by omega)
    rw [this, List.append_nil]
    exact e
  · rw [List.length_append]
    have := g.le
    omega
/-- behind a turn -/
theorem Gi.turn {S M0 M : List Nat} {x t : Nat} (g : Gi B n S x M0 M M0.length) (h : Cl B M0 ∨ t < M0.length) : Gr B n S x M ∧ (Cl B M ∨ t + 1 < M.length) := by
  refine ⟨g.g, ?_⟩
  rcases h with h | h
  · rw [g.still h]
    exact .inl h
  · by_cases hl : M.length = M0.length
    · left
      have e := g.len hl
      subst e
      intro a ha b hb
      obtain ⟨i, hi⟩ := List.mem_iff_getElem?.mp ha
      exact g.done i a (List.getElem?_eq_some_iff.mp hi).1 hi b hb
    · right
      have := g.le
      omega
theorem Gr.end_ {S M L : List Nat} {x : Nat} (C : ClS B n S) (g : Gr B n S x M) (h : Cl B M ∨ n < M.length) (hL : L.Pairwise (· < ·)) (hm : ∀ z, z ∈ L ↔ z ∈ M) : ClS B n L ∧ ClosOf B S x L := by
  have hc : Cl B M := by
    rcases h with h | h
    · exact h
    · have := ndLe g.nd (m := List.range n) fun y hy => List.mem_range.mpr (g.lt y hy)
      simp at this
      omega
  refine ⟨⟨hL, (hm _).mpr (g.sub _ C.z), fun y hy => g.lt y ((hm y).mp hy), fun a ha b hb => (hm _).mpr (hc a ((hm a).mp ha) b ((hm b).mp hb))⟩, (hm _).mpr g.new, fun y hy => (hm _).mpr (g.sub y hy), fun p pm h1 h2 y hy => g.least p pm h1 h2 y ((hm y).mp hy)⟩
end
end K95
set_option autoImplicit false
set_option linter.all false
namespace K95
/-! ### monoids of maps -/
/-- the map f with the c-th of the maps behind it -/
def nxL (Ms : List (List Nat)) (f : List Nat) (c : Nat) : List Nat := f.map fun p => at_ (Ms.getD c []) p
section
variable {Ms : List (List Nat)} {m : Nat}
theorem nxL_comp (h : ∀ M ∈ Ms, M.length = m ∧ ∀ x ∈ M, x < m) : ∀ (u : List Nat) (g : List Nat), (∀ p ∈ g, p < m) → u.foldl (nxL Ms) g = g.map fun p => at_ (u.foldl (nxL Ms) (List.range m)) p := by
  intro u
  induction u using snoc_ind with
  | h0 =>
    intro g hg
    show g = g.map fun p => at_ (List.range m) p
    refine (List.map_id g).symm.trans (List.map_congr_left fun p hp => ?_)
    show p = at_ (List.range m) p
    exact (at_of (List.getElem?_range (hg p hp))).symm
  | h1 u c ih =>
    intro g hg
    rw [List.foldl_append, List.foldl_append, ih g hg]
    have hlen : (u.foldl (nxL Ms) (List.range m)).length = m := by
      have e := ih (List.range m) fun p hp => List.mem_range.mp hp
      rw [e]
      simp
    show nxL Ms (g.map fun p => at_ (u.foldl (nxL Ms) (List.range m)) p) c = g.map fun p => at_ (nxL Ms (u.foldl (nxL Ms) (List.range m)) c) p
    generalize u.foldl (nxL Ms) (List.range m) = F at hlen
    unfold nxL
    rw [List.map_map]
    refine List.map_congr_left fun p hp => ?_
    have hg' : F[p]? = some (at_ F p) := atGet (by rw [hlen]; exact hg p hp)
    show at_ (Ms.getD c []) (at_ F p) = _
    refine (at_of ?_).symm
    rw [List.getElem?_map, hg'] <;> rfl
/-- the maps that are met -/
def GoodF (m : Nat) (f : List Nat) : Prop := f.length = m ∧ ∀ p ∈ f, p < m
theorem goodF_nx (h : ∀ M ∈ Ms, M.length = m ∧ ∀ x ∈ M, x < m) {f : List Nat} {c : Nat} (hf : GoodF m f) (hc : c < Ms.length) : GoodF m (nxL Ms f c) := by
  obtain ⟨h1, h2⟩ := hf
  have hM : Ms.getD c [] ∈ Ms := by
    rw [List.getD_eq_getElem?_getD, List.getElem?_eq_getElem hc]
    exact List.getElem_mem hc
  obtain ⟨h3, h4⟩ := h _ hM
  refine ⟨by unfold nxL; simpa using h1, fun p hp => ?_⟩
  unfold nxL at hp
  obtain ⟨x, hx, rfl⟩ := List.mem_map.mp hp
  exact h4 _ (List.mem_of_getElem? (atGet (by rw [h3]; exact h2 x hx)))
theorem goodF_range : GoodF m (List.range m) := ⟨by simp, fun p hp => List.mem_range.mp hp⟩
theorem goodF_all (h : ∀ M ∈ Ms, M.length = m ∧ ∀ x ∈ M, x < m) {found : List (List Nat)} {rows : Tab} (B : Bfs (nxL Ms) Ms.length (List.range m) found rows) : ∀ f ∈ found, GoodF m f := fun f hf => by
  obtain ⟨u, hu, rfl⟩ := B.rch f hf
  have key : ∀ (u g : List Nat), Letters Ms.length u → GoodF m g → GoodF m (u.foldl (nxL Ms) g) := by
    intro u
    induction u with
    | nil => intro g _ h; exact h
    | cons c u ih =>
      intro g hu hg
      exact ih _ hu.tail (goodF_nx h hg hu.head)
  exact key u _ hu goodF_range
/-- not more than there are maps -/
theorem goodF_le {found : List (List Nat)} (hd : found.Nodup) (h : ∀ f ∈ found, GoodF m f) : found.length ≤ m ^ m := by
  have := ndLe hd (m := rowsL m m) fun f hf => rowsL_mem.mpr (h f hf)
  rwa [rowsL_len] at this
theorem maps_good (h : ∀ M ∈ Ms, M.length = m ∧ ∀ x ∈ M, x < m) {found : List (List Nat)} {rows : Tab} (B : Bfs (nxL Ms) Ms.length (List.range m) found rows) (hl : rows.length = found.length) (n2 : found.length ≤ 2000) (k1 : 1 ≤ Ms.length) (k2 : Ms.length ≤ 6) : Good rows found.length Ms.length := by
  refine B.good hl n2 k1 k2 ⟨fun c f => (nxL Ms (List.range m) c).map fun p => at_ f p, fun c u hc _ => ?_⟩
  rw [List.foldl_cons]
  exact nxL_comp h u _ (goodF_nx h goodF_range hc).2
end
/-- the words of what is met -/
structure WdI {α : Type} (nx : α → Nat → α) (k : Nat) (x0 : α) (found : List α) (ws : List (List Nat)) : Prop where
  len : ws.length = found.length
  ok : ∀ (i : Nat) (p : List Nat), ws[i]? = some p → Letters k p ∧ p.length ≤ i ∧ found[i]? = some (p.foldl nx x0)
theorem WdI.start {α : Type} (nx : α → Nat → α) (k : Nat) (x0 : α) : WdI nx k x0 [x0] [[]] := ⟨rfl, fun i p h => by
  cases i with
  | zero =>
    simp at h
    subst h
    exact ⟨Letters.nil, Nat.le_refl 0, rfl⟩
  | succ i => simp at h⟩
theorem WdI.add {α : Type} {nx : α → Nat → α} {k : Nat} {x0 : α} {found : List α} {ws : List (List Nat)} {t c : Nat} {p : List Nat} (W : WdI nx k x0 found ws) (hp : ws[t]? = some p) {x : α} (hx : found[t]? = some x) (hc : c < k) : WdI nx k x0 (found ++ [nx x c]) (ws ++ [p ++ [c]]) := by
  obtain ⟨a1, a2, a3⟩ := W.ok t p hp
  have htl := (List.getElem?_eq_some_iff.mp hx).1
  refine ⟨by simp [W.len], fun i q hq => ?_⟩
  by_cases hi : i < ws.length
  · rw [List.getElem?_append_left hi] at hq
    obtain ⟨b1, b2, b3⟩ := W.ok i q hq
    exact ⟨b1, b2, by rw [List.getElem?_append_left (by have := W.len; omega)]; exact b3⟩
  · rw [List.getElem?_append_right (by omega)] at hq
    have e0 : i - ws.length = 0 := by
      have := (List.getElem?_eq_some_iff.mp hq).1
      simp at this
      omega
    rw [e0] at hq
    simp at hq
    subst hq
    have ei : i = found.length := by have := W.len; omega
    subst ei
    refine ⟨Letters.app a1 (Letters.one hc), by simp; omega, ?_⟩
    rw [List.getElem?_append_right (Nat.le_refl _), Nat.sub_self, List.foldl_append]
    rw [hx] at a3
    cases a3
    rfl
theorem WdI.val_ {α : Type} [DecidableEq α] {nx : α → Nat → α} {k : Nat} {x0 : α} {found : List α} {rows : Tab} {ws : List (List Nat)} (W : WdI nx k x0 found ws) (B : Bfs nx k x0 found rows) (hl : rows.length = found.length) {i : Nat} {p : List Nat} (h : ws[i]? = some p) : val rows p = i := by
  obtain ⟨a1, _, a3⟩ := W.ok i p h
  have e1 := idx_eq B.nd (B.val_at hl a1)
  have e2 := idx_eq B.nd a3
  omega
end K95
set_option autoImplicit false
set_option Elab.async false
set_option linter.all false
set_option maxRecDepth 100000
set_option maxHeartbeats 4000000
namespace K95
open PySem PySem.Spec PyProof.Rows L2
/-! ### what stays -/
/-- objects that no def of this program changes but its own -/
def plainO : HO → Bool
  | .tbl _ => false
  | .ext _ => false
  | _ => true
/-- a dict told by its entries -/
def MemO (d : Addr) (es : Array DictEntry) : HO := .ext fun h => ∃ o ep, h.get? d = some o ∧ o.ExactDict ∧ o.data = .dict es ep
def nv (n : Nat) : V := .int (n : Int)
def nvs (l : List Nat) : List V := l.map nv
/-- a word of letters' places -/
def letterAt (c : Nat) : Nat := 97 + c
def wordStr (w : List Nat) : Str := ⟨(w.map letterAt).toArray⟩
def words (T : Tab) : List Str := (pathsOf T).map wordStr
section
variable {P : Program} {w : World}
/-- the key of a memory: the words, or the path of a number -/
def nk : Option Nat → NestedKey
  | none => .text "words"
  | some n => .tup [.text "path", .num (n : Int)]
def mEntry (P : Program) (w : World) (x : Option Nat × Value × Addr) : DictEntry := ⟨(nk x.1).hash w, x.2.1, .ref x.2.2⟩
/-- an entry of the memory of the monoid T: its lists are locked for good -/
def MemE (T : Tab) (H : Hp) (x : Option Nat × Value × Addr) : Prop := match x.1 with
  | none => (∃ t, x.2.1 = .str "words" t) ∧ ∃ od, H x.2.2 = some (.frz od (.lst ((words T).map V.str)))
  | some n => (∃ ka, x.2.1 = .ref ka ∧ H ka = some (.tup [.str "path", .int (n : Int)])) ∧ n < T.length ∧ ∃ od, H x.2.2 = some (.frz od (.lst (nvs (path T n))))
/-- the memory of a monoid of the table T -/
def MemFor (P : Program) (w : World) (H : Hp) (d : Addr) (T : Tab) : Prop := ∃ (es : Array DictEntry) (xs : List (Option Nat × Value × Addr)), H d = some (MemO d es) ∧ (d == sysModules) = false ∧
  es.toList = xs.map (mEntry P w) ∧ (xs.map (·.1)).Nodup ∧ ∀ x ∈ xs, MemE T H x
end
/-- what may be changed -/
def mutO : HO → Bool
  | .lst _ => true
  | .dK _ => true
  | .dT _ => true
  | .ins _ _ _ => true
  | _ => false
theorem mutO_plain {o : HO} (h : mutO o = true) : plainO o = true := by
  cases o <;> first | rfl | cases h
/-! ### a monoid's object -/
def IntTup (H : Hp) (v : V) (l : List Nat) : Prop := ∃ a, v = .ref a ∧ H a = some (.tup (nvs l))
def PairTup (H : Hp) (v : V) (p : Nat × Nat) : Prop := ∃ a, v = .ref a ∧ H a = some (.tup [nv p.1, nv p.2])
/-- a tuple of tuples -/
def TabT (H : Hp) (a : Addr) (T : Tab) : Prop := ∃ vs, H a = some (.tup vs) ∧ Paired (IntTup H) vs T
def TreeL (H : Hp) (a : Addr) (T : Tab) : Prop := ∃ vs, H a = some (.lst (.non :: vs)) ∧ Paired (PairTup H) vs (treeOf T)
def mflds (r t l d : Addr) : List (Str × V) := [("right", .ref r), ("tree", .ref t), ("lefts", .ref l), ("memory", .ref d)]
/-- but for its memory -/
structure MonB (C : Addr) (H : Hp) (m dx r t l d : Addr) (T : Tab) : Prop where
  ob : H m = some (.ins C dx (mflds r t l d))
  right : TabT H r T
  tree : TreeL H t T
  lefts : TabT H l (leftsOf T)
def MonAt (P : Program) (w : World) (C : Addr) (H : Hp) (m : Addr) (T : Tab) : Prop := (∃ n k, Good T n k) ∧ ∃ dx r t l d, MonB C H m dx r t l d T ∧ MemFor P w H d T
/-- no two monoids share a memory -/
def Sep (C : Addr) (H : Hp) : Prop := ∀ m1 m2 dx1 dx2 r1 r2 t1 t2 l1 l2 d, H m1 = some (.ins C dx1 (mflds r1 t1 l1 d)) → H m2 = some (.ins C dx2 (mflds r2 t2 l2 d)) → m1 = m2
/-- the tables of the code objects, each with its lambda's name -/
abbrev Tbs := List (Addr × Str)
/-- what holds wherever a def is called -/
structure Okk (tb : Tbs) (C : Addr) (H : Hp) : Prop where
  tab : LamX.Tabs tb H
  sep : Sep C H
  dm : ∀ m dx r t l d, H m = some (.ins C dx (mflds r t l d)) → ∃ es, H d = some (MemO d es)
/-- what every def of the program keeps -/
structure Ext (P : Program) (w : World) (tb : Tbs) (C : Addr) (H H' : Hp) : Prop where
  keep : ∀ a o, H a = some o → plainO o = true → H' a = some o
  code : ∀ c q, H c = some (LamX.CodeO c q) → H' c = some (LamX.CodeO c q)
  ok : Okk tb C H → Okk tb C H'
  mon : Okk tb C H → ∀ m T, MonAt P w C H m T → MonAt P w C H' m T
section
variable {P : Program} {w : World} {tb : Tbs} {C : Addr} {H H1 H2 H' : Hp} {a b p : Addr} {o : HO} {xs : List V} {T : Tab}
theorem Ext.refl (H : Hp) : Ext P w tb C H H := ⟨fun _ _ h _ => h, fun _ _ h => h, fun h => h, fun _ _ _ h => h⟩
theorem Ext.trans (a : Ext P w tb C H H1) (b : Ext P w tb C H1 H2) : Ext P w tb C H H2 :=
  ⟨fun x o h q => b.keep x o (a.keep x o h q) q, fun c q h => b.code c q (a.code c q h), fun h => b.ok (a.ok h), fun h m T z => b.mon (a.ok h) m T (a.mon h m T z)⟩
theorem Ext.tup (e : Ext P w tb C H H') (h : H a = some (.tup xs)) : H' a = some (.tup xs) := e.keep a _ h rfl
theorem Ext.lst (e : Ext P w tb C H H') (h : H a = some (.lst xs)) : H' a = some (.lst xs) := e.keep a _ h rfl
theorem Ext.ins {c dx : Addr} {fs : List (Str × V)} (e : Ext P w tb C H H') (h : H a = some (.ins c dx fs)) : H' a = some (.ins c dx fs) := e.keep a _ h rfl
theorem IntTup.mono (k : ∀ a xs, H a = some (.tup xs) → H' a = some (.tup xs)) {v : V} {l : List Nat} (h : IntTup H v l) : IntTup H' v l := by
  obtain ⟨a, e, h⟩ := h
  exact ⟨a, e, k _ _ h⟩
theorem PairTup.mono (k : ∀ a xs, H a = some (.tup xs) → H' a = some (.tup xs)) {v : V} {l : Nat × Nat} (h : PairTup H v l) : PairTup H' v l := by
  obtain ⟨a, e, h⟩ := h
  exact ⟨a, e, k _ _ h⟩
theorem TabT.mono (k : ∀ a xs, H a = some (.tup xs) → H' a = some (.tup xs)) (h : TabT H a T) : TabT H' a T := by
  obtain ⟨vs, h1, h2⟩ := h
  exact ⟨vs, k _ _ h1, Paired.mapP h2 fun _ _ z => z.mono k⟩
theorem MonB.mono {m dx r t l d : Addr} (k : ∀ a o, H a = some o → plainO o = true → H' a = some o) (h : MonB C H m dx r t l d T) : MonB C H' m dx r t l d T := by
  obtain ⟨h1, h2, ⟨vs, h3, h4⟩, h5⟩ := h
  have kt : ∀ a xs, H a = some (.tup xs) → H' a = some (.tup xs) := fun a xs z => k a _ z rfl
  exact ⟨k _ _ h1 rfl, h2.mono kt, ⟨vs, k _ _ h3 rfl, Paired.mapP h4 fun _ _ z => z.mono kt⟩, h5.mono kt⟩
theorem MemE.mono {x : Option Nat × Value × Addr} (kt : ∀ a xs, H a = some (.tup xs) → H' a = some (.tup xs)) (kf : ∀ a od u, H a = some (.frz od u) → H' a = some (.frz od u)) (h : MemE T H x) : MemE T H' x := by
  obtain ⟨k0, kv, a⟩ := x
  cases k0 with
  | none =>
    obtain ⟨h1, od, h2⟩ := h
    exact ⟨h1, od, kf _ _ _ h2⟩
  | some n =>
    obtain ⟨⟨ka, e, h1⟩, h2, od, h3⟩ := h
    exact ⟨⟨ka, e, kt _ _ h1⟩, h2, od, kf _ _ _ h3⟩
theorem MemFor.mono {d : Addr} (kt : ∀ a xs, H a = some (.tup xs) → H' a = some (.tup xs)) (kf : ∀ a od u, H a = some (.frz od u) → H' a = some (.frz od u)) (hd : H' d = H d) (h : MemFor P w H d T) : MemFor P w H' d T := by
  obtain ⟨es, xs, h1, h2, h3, h4, h5⟩ := h
  exact ⟨es, xs, by rw [hd]; exact h1, h2, h3, h4, fun x hx => (h5 x hx).mono kt kf⟩
theorem memO_ne {d : Addr} {es : Array DictEntry} {o : HO} (h : mutO o = true) : MemO d es ≠ o := fun z => by
  unfold MemO at z
  subst z
  cases h
/-- all is kept that is no table, and no new instance shares a memory -/
theorem Ext.ofN (k : LamX.ExtN H H') (ok : Okk tb C H → Okk tb C H') : Ext P w tb C H H' := by
  have kp : ∀ a o, H a = some o → plainO o = true → H' a = some o := fun a o h q => k a o h fun ps z => (by subst z; cases q)
  refine ⟨kp, fun c q h => k c _ h fun ps z => LamX.codeO_ne ps z, ok, fun _ m T h => ?_⟩
  obtain ⟨g, dx, r, t, l, d, h1, h2⟩ := h
  refine ⟨g, dx, r, t, l, d, h1.mono kp, ?_⟩
  obtain ⟨es, xs, h3, _⟩ := id h2
  exact h2.mono (fun a xs z => k a _ z fun ps y => (by cases y)) (fun a od u z => k a _ z fun ps y => (by cases y)) (by rw [k d _ h3 fun ps z => (by unfold MemO at z; cases z), h3])
/-- a new object that is no monoid -/
theorem Ext.new (h : H p = none) (q : ∀ dx r t l d, o ≠ .ins C dx (mflds r t l d) := by intro _ _ _ _ _ z; cases z) : Ext P w tb C H (upd H p o) := by
  have kp : ∀ a u, H a = some u → upd H p o a = some u := fun a u e => by
    rw [upd_ne (ne_of_none e h)]
    exact e
  refine Ext.ofN (LamX.ExtN.of kp) fun ok => ⟨ok.tab.ext kp, fun m1 m2 dx1 dx2 r1 r2 t1 t2 l1 l2 d h1 h2 => by
  have f : ∀ {m dx r t l d}, upd H p o m = some (.ins C dx (mflds r t l d)) → H m = some (.ins C dx (mflds r t l d)) := fun {m dx r t l d} z => by
    by_cases e : m = p
    · subst e
      rw [upd_same] at z
      exact absurd (Option.some.inj z) (q _ _ _ _ _)
    · rw [upd_ne e] at z
      exact z
  exact ok.sep m1 m2 dx1 dx2 r1 r2 t1 t2 l1 l2 d (f h1) (f h2), fun m dx r t l d hm => by
    have hm' : H m = some (.ins C dx (mflds r t l d)) := by
      by_cases e : m = p
      · subst e
        rw [upd_same] at hm
        exact absurd (Option.some.inj hm) (q _ _ _ _ _)
      · rw [upd_ne e] at hm
        exact hm
    obtain ⟨es, h⟩ := ok.dm m dx r t l d hm'
    exact ⟨es, kp d _ h⟩⟩
/-- p is none of what H tells -/
def Nw (H : Hp) (p : Addr) : Prop := ∀ o, H p = some o → plainO o = false
theorem Nw.of (h : H p = none) : Nw H p := fun o z => by rw [h] at z; cases z
theorem Nw.back (e : Ext P w tb C H H1) (n : Nw H1 p) : Nw H p := fun o z => by
  cases q : plainO o with
  | false => rfl
  | true =>
    have := n o (e.keep p o z q)
    rw [q] at this
    cases this
theorem Ext.nw (e : Ext P w tb C H H1) (h : H1 p = none) : Nw H p := (Nw.of h).back e
theorem Nw.ne (n : Nw H p) (h : H a = some o) (q : plainO o = true) : a ≠ p := fun z => by
  subst z
  have := n o h
  rw [q] at this
  cases this
theorem upd_sep {o' : HO} (ok : Sep C H') (hp : H' p = some o') (q : ∀ dx r t l d, o ≠ .ins C dx (mflds r t l d)) : Sep C (upd H' p o) := fun m1 m2 dx1 dx2 r1 r2 t1 t2 l1 l2 d h1 h2 => by
  have f : ∀ {m dx r t l d}, upd H' p o m = some (.ins C dx (mflds r t l d)) → H' m = some (.ins C dx (mflds r t l d)) := fun {m dx r t l d} z => by
    by_cases e : m = p
    · subst e
      rw [upd_same] at z
      exact absurd (Option.some.inj z) (q _ _ _ _ _)
    · rw [upd_ne e] at z
      exact z
  exact ok m1 m2 dx1 dx2 r1 r2 t1 t2 l1 l2 d (f h1) (f h2)
/-- p, which H does not tell, is changed -/
theorem Ext.mut {o' : HO} (e : Ext P w tb C H H') (n : Nw H p) (hp : H' p = some o') (q : mutO o' = true) (qn : ∀ dx r t l d, o ≠ .ins C dx (mflds r t l d) := by intro _ _ _ _ _ z; cases z) : Ext P w tb C H (upd H' p o) := by
  have ne : ∀ a u, H' a = some u → mutO u = false → a ≠ p := fun a u z y x => by
    subst x
    rw [z] at hp
    cases hp
    rw [q] at y
    cases y
  have kp : ∀ a u, H a = some u → plainO u = true → upd H' p o a = some u := fun a u h z => by
    rw [upd_ne (n.ne h z)]
    exact e.keep a u h z
  refine ⟨kp, fun c q h => ?_, fun h => ⟨?_, ?_, ?_⟩, fun h m T z => ?_⟩
  · rw [upd_ne (ne c _ (e.code c q h) rfl)]
    exact e.code c q h
  · intro t ht
    obtain ⟨ps, h1, h2, h3⟩ := (e.ok h).tab t ht
    refine ⟨ps, by rw [upd_ne (ne _ _ h1 rfl)]; exact h1, h2, fun pos cv hc => ?_⟩
    obtain ⟨c, e1, e2⟩ := h3 pos cv hc
    exact ⟨c, e1, by rw [upd_ne (ne _ _ e2 rfl)]; exact e2⟩
  · exact upd_sep (e.ok h).sep hp qn
  · intro m dx r t l d hm
    have hm' : H' m = some (.ins C dx (mflds r t l d)) := by
      by_cases e : m = p
      · subst e
        rw [upd_same] at hm
        exact absurd (Option.some.inj hm) (qn _ _ _ _ _)
      · rw [upd_ne e] at hm
        exact hm
    obtain ⟨es, h⟩ := (e.ok h).dm m dx r t l d hm'
    exact ⟨es, by rw [upd_ne (ne d _ h rfl)]; exact h⟩
  · obtain ⟨g, dx', r', t', l', d', y1, y2⟩ := e.mon h m T z
    obtain ⟨_, dx, r, t, l, d, x1, x2⟩ := z
    have em := (e.keep m _ x1.ob rfl).symm.trans y1.ob
    unfold mflds at em
    cases em
    refine ⟨g, dx', r', t', l', d', x1.mono kp, ?_⟩
    obtain ⟨es, xs, h1, _⟩ := id y2
    exact y2.mono (fun a xs z => by rw [upd_ne (ne a _ z rfl)]; exact z) (fun a od u z => by rw [upd_ne (ne a _ z rfl)]; exact z) (upd_ne (ne d' _ h1 rfl))
/-- a store into the memory of the monoid m: the value's list is locked, the dict gets another entry -/
theorem Ext.memo {m dx r t l d : Addr} {es : Array DictEntry} {od : Obj} {T : Tab} {ys : List V} (e : Ext P w tb C H H') (n : Nw H a) (ha : H' a = some (.lst ys)) (ok : Okk tb C H') (hm : MonB C H' m dx r t l d T) (hd : MemFor P w H' d T)
    (h' : MemFor P w (upd (upd H' a (.frz od (.lst ys))) d (MemO d es)) d T) : Ext P w tb C H (upd (upd H' a (.frz od (.lst ys))) d (MemO d es)) := by
  obtain ⟨es0, xs0, g1, g2⟩ := id hd
  have nda : d ≠ a := ne_of g1 ha fun z => memO_ne (o := .lst ys) rfl z
  have ne : ∀ b u, H' b = some u → mutO u = false → b ≠ a := fun b u z y x => by
    subst x
    rw [z] at ha
    cases ha
    cases y
  have nd : ∀ b u, H' b = some u → u ≠ MemO d es0 → b ≠ d := fun b u z y x => by
    subst x
    rw [z] at g1
    cases g1
    exact y rfl
  have pm : ∀ {u : HO}, plainO u = true → u ≠ MemO d es0 := fun {u} z x => by
    subst x
    cases z
  have cm : ∀ {c q}, H' c = some (LamX.CodeO c q) → c ≠ d := fun {c q} z x => by
    subst x
    rw [z] at g1
    have g2 : LamX.CodeO c q = MemO c es0 := Option.some.inj g1
    unfold LamX.CodeO MemO at g2
    have g3 := HO.ext.inj g2
    have g4 := congrFun g3 (Heap.push ⟨(Array.replicate c default), default⟩ { cls := .none, data := .fields #[.none, .str q 0] })
    have hg : (Heap.push ⟨(Array.replicate c default), default⟩ ({ cls := .none, data := .fields #[.none, .str q 0] } : Obj)).get? c = some ({ cls := .none, data := .fields #[.none, .str q 0] } : Obj) := by
      have := Heap.get?_push_size (h := ⟨(Array.replicate c default), default⟩) (o := ({ cls := .none, data := .fields #[.none, .str q 0] } : Obj)) rfl
      simpa using this
    have l : ∃ (oc : Obj) (vs : Array Value) (t : Tok), (Heap.push ⟨(Array.replicate c default), default⟩ ({ cls := .none, data := .fields #[.none, .str q 0] } : Obj)).get? c = some oc ∧ oc.data = .fields vs ∧ vs[1]? = some (.str q t) := ⟨_, _, 0, hg, rfl, rfl⟩
    rw [g4] at l
    obtain ⟨o, ep, l1, l2, l3⟩ := l
    rw [hg] at l1
    cases l1
    cases l3
  have kp : ∀ b u, H b = some u → plainO u = true → upd (upd H' a (.frz od (.lst ys))) d (MemO d es) b = some u := fun b u h z => by
    have hb := e.keep b u h z
    rw [upd_ne (nd b u hb (pm z)), upd_ne (n.ne h z)]
    exact hb
  refine ⟨kp, fun c q h => ?_, fun h => ⟨?_, ?_, ?_⟩, fun h m1 T1 z => ?_⟩
  · have hb := e.code c q h
    rw [upd_ne (cm hb), upd_ne (ne _ _ hb rfl)]
    exact hb
  · intro t ht
    obtain ⟨ps, h1, h2, h3⟩ := (e.ok h).tab t ht
    refine ⟨ps, by rw [upd_ne (nd _ _ h1 (fun z => by unfold MemO at z; cases z)), upd_ne (ne _ _ h1 rfl)]; exact h1, h2, fun pos cv hc => ?_⟩
    obtain ⟨c, e1, e2⟩ := h3 pos cv hc
    exact ⟨c, e1, by rw [upd_ne (cm e2), upd_ne (ne _ _ e2 rfl)]; exact e2⟩
  · exact upd_sep (upd_sep (e.ok h).sep ha (fun _ _ _ _ _ z => by cases z)) (by rw [upd_ne nda]; exact g1) (fun _ _ _ _ _ z => by unfold MemO at z; cases z)
  · intro m1 dx1 r1 t1 l1 d1 hm1
    have hm2 : H' m1 = some (.ins C dx1 (mflds r1 t1 l1 d1)) := by
      by_cases e1 : m1 = d
      · subst e1
        rw [upd_same] at hm1
        exact absurd (Option.some.inj hm1) (fun z => by unfold MemO at z; cases z)
      · rw [upd_ne e1] at hm1
        by_cases e2 : m1 = a
        · subst e2
          rw [upd_same] at hm1
          cases hm1
        · rw [upd_ne e2] at hm1
          exact hm1
    obtain ⟨es1, h1⟩ := (e.ok h).dm m1 dx1 r1 t1 l1 d1 hm2
    by_cases e3 : d1 = d
    · subst e3
      exact ⟨es, upd_same⟩
    · exact ⟨es1, by rw [upd_ne e3, upd_ne (ne d1 _ h1 rfl)]; exact h1⟩
  · obtain ⟨g, dx', r', t', l', d', y1, y2⟩ := e.mon h m1 T1 z
    obtain ⟨_, dx1, r1, t1, l1, d1, x1, x2⟩ := z
    have em := (e.keep m1 _ x1.ob rfl).symm.trans y1.ob
    unfold mflds at em
    cases em
    refine ⟨g, dx', r', t', l', d', x1.mono kp, ?_⟩
    by_cases hdd : d' = d
    · subst hdd
      have hmm : m1 = m := ok.sep _ _ _ _ _ _ _ _ _ _ _ y1.ob hm.ob
      subst hmm
      have eob := y1.ob.symm.trans hm.ob
      unfold mflds at eob
      cases eob
      -- the right tables are one, so T1 = T
      obtain ⟨v1, a1, a2⟩ := y1.right
      obtain ⟨v2, b1, b2⟩ := hm.right
      rw [a1] at b1
      cases b1
      have hT : T1 = T := by
        have key : ∀ {vs : List V} {A B : Tab}, Paired (IntTup H') vs A → Paired (IntTup H') vs B → A = B := fun {vs A B} p => by
          induction p generalizing B with
          | nil => intro q; cases q; rfl
          | cons r t ih =>
            intro q
            cases q with
            | cons r' t' =>
              obtain ⟨c1, e1, f1⟩ := r
              obtain ⟨c2, e2, f2⟩ := r'
              rw [e1] at e2
              cases e2
              rw [f1] at f2
              have e3 := HO.tup.inj (Option.some.inj f2)
              have e4 : ∀ {l l' : List Nat}, nvs l = nvs l' → l = l' := fun {l l'} z => by
                unfold nvs at z
                refine List.map_inj_right (f := nv) (fun x y z => ?_) |>.mp z
                have := V.int.inj z
                omega
              rw [e4 e3, ih t']
        exact key a2 b2
      subst hT
      exact h'
    · obtain ⟨es1, xs1, f1, f2⟩ := id y2
      refine y2.mono (fun b xs z => ?_) (fun b od u z => ?_) ?_
      · rw [upd_ne (nd b _ z (pm rfl)), upd_ne (ne b _ z rfl)]
        exact z
      · rw [upd_ne (nd b _ z (pm rfl)), upd_ne (ne b _ z rfl)]
        exact z
      · rw [upd_ne hdd, upd_ne (ne _ _ f1 rfl)]
/-- a new monoid: its memory is laid, then its last field -/
theorem Ext.made {H5 : Hp} {m dx r t l d : Addr} {fs : List (Str × V)} (e : Ext P w tb C H H5) (n : Nw H m) (hm : H5 m = some (.ins C dx fs)) (hd : H5 d = none) : Ext P w tb C H (upd (upd H5 d (MemO d #[])) m (.ins C dx (mflds r t l d))) := by
  have hmd : m ≠ d := ne_of_none hm hd
  have ne : ∀ a u, H5 a = some u → u ≠ .ins C dx fs → a ≠ m := fun a u h z y => by
    subst y
    rw [hm] at h
    cases h
    exact z rfl
  have get : ∀ a u, H5 a = some u → a ≠ m → upd (upd H5 d (MemO d #[])) m (.ins C dx (mflds r t l d)) a = some u := fun a u h z => by
    rw [upd_ne z, upd_ne (ne_of_none h hd)]
    exact h
  have kp : ∀ a u, H a = some u → plainO u = true → upd (upd H5 d (MemO d #[])) m (.ins C dx (mflds r t l d)) a = some u := fun a u h z => get a u (e.keep a u h z) (n.ne h z)
  have old : ∀ {m1 dx1 r1 t1 l1 d1}, m1 ≠ m → upd (upd H5 d (MemO d #[])) m (.ins C dx (mflds r t l d)) m1 = some (.ins C dx1 (mflds r1 t1 l1 d1)) → H5 m1 = some (.ins C dx1 (mflds r1 t1 l1 d1)) := fun {m1 dx1 r1 t1 l1 d1} h1 h2 => by
    rw [upd_ne h1] at h2
    by_cases e1 : m1 = d
    · subst e1
      rw [upd_same] at h2
      exact absurd (Option.some.inj h2) (fun z => by unfold MemO at z; cases z)
    · rw [upd_ne e1] at h2
      exact h2
  have newd : Okk tb C H5 → ∀ {m1 dx1 r1 t1 l1}, m1 ≠ m → upd (upd H5 d (MemO d #[])) m (.ins C dx (mflds r t l d)) m1 = some (.ins C dx1 (mflds r1 t1 l1 d)) → False := fun ok {m1 dx1 r1 t1 l1} h1 h2 => by
    obtain ⟨es, h3⟩ := ok.dm _ _ _ _ _ _ (old h1 h2)
    rw [hd] at h3
    cases h3
  refine ⟨kp, fun c q h => ?_, fun h => ⟨?_, ?_, ?_⟩, fun h m1 T1 z => ?_⟩
  · have h1 := e.code c q h
    exact get _ _ h1 (ne _ _ h1 fun z => by unfold LamX.CodeO at z; cases z)
  · intro x hx
    obtain ⟨ps, h1, h2, h3⟩ := (e.ok h).tab x hx
    refine ⟨ps, get _ _ h1 (ne _ _ h1 fun z => by cases z), h2, fun pos cv hc => ?_⟩
    obtain ⟨c, e1, e2⟩ := h3 pos cv hc
    exact ⟨c, e1, get _ _ e2 (ne _ _ e2 fun z => by unfold LamX.CodeO at z; cases z)⟩
  · intro m1 m2 dx1 dx2 r1 r2 t1 t2 l1 l2 d1 h1 h2
    by_cases a1 : m1 = m <;> by_cases a2 : m2 = m
    · rw [a1, a2]
    · subst a1
      have h1' := h1
      rw [upd_same] at h1'
      have h3 := HO.ins.inj (Option.some.inj h1')
      have h4 : d = d1 := by
        have := h3.2.2
        unfold mflds at this
        simp at this
        exact this.2.2.2
      subst h4
      exact (newd (e.ok h) a2 h2).elim
    · subst a2
      have h1' := h2
      rw [upd_same] at h1'
      have h3 := HO.ins.inj (Option.some.inj h1')
      have h4 : d = d1 := by
        have := h3.2.2
        unfold mflds at this
        simp at this
        exact this.2.2.2
      subst h4
      exact (newd (e.ok h) a1 h1).elim
    · exact (e.ok h).sep m1 m2 dx1 dx2 r1 r2 t1 t2 l1 l2 d1 (old a1 h1) (old a2 h2)
  · intro m1 dx1 r1 t1 l1 d1 h1
    by_cases a1 : m1 = m
    · subst a1
      have h1' := h1
      rw [upd_same] at h1'
      have h3 := HO.ins.inj (Option.some.inj h1')
      have h4 : d = d1 := by
        have := h3.2.2
        unfold mflds at this
        simp at this
        exact this.2.2.2
      subst h4
      exact ⟨#[], by rw [upd_ne hmd.symm, upd_same]⟩
    · obtain ⟨es, h2⟩ := (e.ok h).dm _ _ _ _ _ _ (old a1 h1)
      exact ⟨es, get _ _ h2 (ne _ _ h2 fun z => by unfold MemO at z; cases z)⟩
  · obtain ⟨g, dx', r', t', l', d', y1, y2⟩ := e.mon h m1 T1 z
    obtain ⟨_, dx1, r1, t1, l1, d1, x1, x2⟩ := z
    have em := (e.keep m1 _ x1.ob rfl).symm.trans y1.ob
    unfold mflds at em
    cases em
    refine ⟨g, dx', r', t', l', d', x1.mono kp, ?_⟩
    obtain ⟨es, xs, f1, _⟩ := id y2
    exact y2.mono (fun a xs z => get a _ z (ne _ _ z fun y => by cases y)) (fun a od u z => get a _ z (ne _ _ z fun y => by cases y)) (by rw [get _ _ f1 (ne _ _ f1 fun y => by unfold MemO at y; cases y), f1])
end
end K95
set_option Elab.async false
set_option linter.all false
set_option maxRecDepth 100000
set_option maxHeartbeats 4000000
set_option autoImplicit false
/-! lambdas with parameters, handed to a def -/
namespace K95
open PySem PySem.Spec PyProof.Rows L2 LamX NdefX
/-! ### a function that stands in the base -/
section
variable {X : Cx} {k i : Nat} {f : Addr} {fd : FuncData} {ps : List Str} {sp : Sp} {x : Str} {p pos : Pos} {e : Expr} {es : List Expr} {t : TA}
/-- f(e, ..), a name that holds a function of the base -/
def tCallBs (i : Nat) (f : Addr) (sp : Sp) (t : TA) : TE := fun σ H Q => σ[i]? = some (some (.ref f)) ∧ t σ H fun vs H1 => sp vs H1 Q E0
theorem pe_callBs (F : FnOk X.prog X.w X.K X.mg X.base CX0 k f fd ps sp) (hr : Room k X.A) (hf : PySem.W.FnAt f X.base) (hb : ∀ us : List Value, us.length = ps.length → bindArgs fd ⟨us, []⟩ = pure (ps.zip us)) (hN : X.N[i]? = some x) (hv : Vis X.env.scope x) (ha : PA X (e :: es) t)
    (hdb : (x == ("__debug__" : Str)) = false := by decide) (hcd : (x == ("__classdict__" : Str)) = false := by decide)
    (he : starEach (e :: es) X.env = (false, eval e X.env) :: starEach es X.env := by rfl) (hpl : (backTo pos (starEach es X.env)).any (·.1) = false := by rfl) : PE X (.Call (.Name x p) (e :: es) [] pos) (tCallBs i f sp t) := by
  refine ⟨fun pins s σ H Q I h => ?_⟩
  obtain ⟨hs, ht⟩ := h
  refine wpAny_Call_Name_kw (thn ((pe_var (pos := p) hN hv hdb hcd).run pins s σ H (fun v H1 => v = .ref f ∧ H1 = H) I ⟨.ref f, hs, rfl, rfl⟩) fun u s1 ⟨v, H1, I1, r1, q1⟩ => ?_)
  obtain ⟨rfl, rfl⟩ := q1
  cases r1
  have at_ : ∀ {pins σ H s}, Inv X pins σ H s → PySem.W.FnAt f s.heap := fun {pins σ H s} I => by
    obtain ⟨oc, od, fd, sl, h⟩ := hf
    exact ⟨oc, od, fd, sl, I.bk _ _ h⟩
  refine PySem.W.callWith_F (first := []) (at_ I1) (thn (ha.run pos pins s1 σ _ _ I1 ht) fun us s2 ⟨vs, H2, I2, r, q⟩ => ⟨at_ I2, ?_⟩) he hpl
  have q' : sp (vs ++ []) H2 Q E0 := by rw [List.append_nil]; exact q
  exact run_fn F hr (.all hb) .nil pass0 I2 r q'
end
/-! ### what a lambda promises -/
abbrev lamNF (q : Str) (params : Arguments) (scope : Scope) (cl : List (Str × Addr)) (c' : Addr) : NF := ⟨"<lambda>", q, params, [], scope, cl, c'⟩
section
variable {P : Program} {w : World} {K : PySem.W.Frag} {mg : Str → Option Value} {base : Heap} {N ps fr : List Str} {k : Nat} {f c' : Addr} {q : Str} {params : Arguments} {body : Expr} {scope : Scope} {cl : List (Str × Addr)} {pm ctv : Value} {ws : List (Option V)} {sp : Sp}
theorem lam_ok (S : NScope N ps fr scope) (hobj : base.get? f = some (PySem.W.kla_obj "<lambda>" q params body scope cl pm c' ctv)) (hC : CellsAt cl fr ws base fun _ => none)
    (hbind : ∀ us : List Value, us.length = ps.length → bindArgs (PySem.W.kla_fn "<lambda>" q params body scope cl pm (.ref c') ctv) ⟨us, []⟩ = pure (ps.zip us)) (len : ∀ vs H Q E, sp vs H Q E → vs.length = ps.length) (hcode : ∀ vs H Q E, sp vs H Q E → H c' = some (CodeO c' q))
    (hbody : ∀ (A : Around) (outer : List Env) (s : Shared) (H : Hp) (vs : List V) (Q : VK) (E : XK), Room k (A.deeper (envF (lamNF q params scope cl c') f s.heap.objs.size)) → sp vs H Q E →
      ∃ t, PE (ncx CX0 P w K mg base N (lamNF q params scope cl c') f A outer s H E).nox body t ∧ t (startF N vs ws) H Q) :
    FnOk P w K mg base CX0 (k + 1) f (PySem.W.kla_fn "<lambda>" q params body scope cl pm (.ref c') ctv) ps sp := by
  refine ⟨len, fun A outer s H args us vs Q E hr e0 hb r hsp => ?_⟩
  have hl := len _ _ _ _ hsp
  have lim : s.heap.NoLimit := e0.mod.nolimit.keeps fun b o e => (e0.bs b o e).1
  have ho := (e0.bs _ _ hobj).1
  obtain ⟨⟨oc, vs', t', h1, h2, h3⟩, _, _⟩ := e0.hok c' _ (hcode _ _ _ _ hsp)
  have C : CellsAt cl fr ws s.heap H := by
    refine ⟨hC.len, fun y c e => ?_, hC.inj, fun i y hi => ?_⟩
    · obtain ⟨_, v, o, h1, h2⟩ := hC.all y c e
      obtain ⟨a1, a2⟩ := e0.bs c o h1
      exact ⟨a2, v, o, a1, h2⟩
    · obtain ⟨c, h1, h2⟩ := hC.has i y hi
      refine ⟨c, h1, fun v hv => ?_⟩
      obtain ⟨u, r, o, ho, hd⟩ := h2 v hv
      exact ⟨u, r, o, (e0.bs c o ho).1, hd⟩
  refine PySem.W.kla_callFunE hr.depth ho rfl S.co S.gen rfl ⟨c', oc, vs', t', rfl, h1, h2, h3⟩ (hb _ _ _ _ ?_)
  refine wpAny_newFunctionEnv S.nocell (fun ⟨n, _⟩ hy => S.par n (List.of_mem_zip hy).1) (fun h₁ hns hsb => ⟨lim.fresh _ hsb, ?_⟩) S.kind
  show codeAny _ _ (.expr body (envF (lamNF q params scope cl c') f s.heap.objs.size)) _ _
  have kp : ∀ b o, s.heap.get? b = some o → h₁.get? b = some o := fun b o e => hsb.extBut b o (Nat.ne_of_lt (Heap.lt_size e)) (Heap.get?_push_of_some _ e)
  obtain ⟨t, ht, hq⟩ := hbody A outer s H vs Q E (hr.deeper _) hsp
  have I : Inv (ncx CX0 P w K mg base N (lamNF q params scope cl c') f A outer s H E) [] (startF N vs ws) H { s with heap := h₁, toks := s.toks + (ps.zip us).length } := inv_startN (F := lamNF q params scope cl c') S hr.hd e0 hl r C hns kp
  refine PySem.W.kla_codeExpr (wpAny_mono (ht.nox.run [] _ (startF N vs ws) H Q I hq) (fun v s' hq => ?_) fun e s' hq => hq)
  obtain ⟨w', H', J', rv, q⟩ := hq
  exact ⟨w', H', J'.os, J'.bare, J'.base, J'.hok, rv, q⟩
end
/-! ### the making of a lambda: nothing comes in but a code object and its table's entry -/
/-- what is told anew of H1 is a table or a code object -/
def Few (H H1 : Hp) : Prop := ∀ a o, H1 a = some o → (∃ ps, o = .tbl ps) ∨ (∃ c q, o = CodeO c q) ∨ H a = some o
section
variable {X : Cx} {pins : List (Addr × Obj)} {σ : L2.St} {H : Hp} {s : Shared}
theorem lam_few {tb : List (Addr × Str)} {c Pt : Addr} {q : Str} {params : Arguments} {body : Expr} {scope : Scope} {pos : Pos} {E Q : Value → Shared → Prop}
    (hq : X.env.qual ++ "<lambda>" = q) (I : Inv X pins σ H s) (B : TabB X.base X.mg c Pt) (hcd : X.env.code = .ref c) (hin : (Pt, q) ∈ tb) (hone : ∀ p ∈ tb, p.1 = Pt → p.2 = q) (hT : Tabs tb H) (hdf : defaultsOf params X.env = ([], []))
    (hfr : ∀ y ∈ scope.names, y.2 = .free → ∃ c, X.env.cells.lookup y.1 = some c)
    (k : ∀ f c' pm ctv H1 s', Inv X pins σ H1 s' → ExtN H H1 → Few H H1 → Tabs tb H1 → s'.heap.get? f = some (PySem.W.kla_obj "<lambda>" q params body scope (cloFrom X.env.cells scope.names []) pm c' ctv) →
      H1 f = none → f ∉ frs X.stack → H1 c' = some (CodeO c' q) → Q (.ref f) s') : wpAny (model X.prog X.w) X.A (eval (.Lambda params body scope pos) X.env) Q E s := by
  subst hq
  have tabP := hT _ hin
  obtain ⟨ps, atP, tri, known⟩ := tabP
  have objP : s.heap.get? Pt = some { cls := .none, data := .fields ps } := I.hok Pt _ atP
  have builtP : s.heap.BuiltinsAt X.mg Pt := B.bm.keeps I.bk
  have globs := I.mod.glob.keeps I.bk
  have young : ∀ f, s.heap.objs.size ≤ f → f ∉ frs X.stack := by
    intro f hf z
    cases List.mem_cons.mp (I.stkSub _ z) with
    | inl e => exact absurd (Nat.lt_of_lt_of_le I.lt (e ▸ hf)) (Nat.lt_irrefl _)
    | inr e => exact I.nofs hf e
  refine PySem.W.kla_eval hdf ?_
  cases found : codeAmong pos ps.toList with
  | some cv =>
    obtain ⟨c', rfl, hco⟩ := known pos cv found
    refine PySem.W.kla_makeFunctionHit (mg := X.mg) (c := c) (P := Pt) (ps := ps) (closure_ok hfr) I.ok.glob globs hcd (B.code.keeps I.bk) objP tri found builtP fun ctv h' tk up grown => ?_
    have J := I.kept (h' := h'.push (PySem.W.kla_obj "<lambda>" (X.env.qual ++ "<lambda>") params body scope (cloFrom X.env.cells scope.names []) ((X.mg "__name__").getD .none) c' ctv)) (t' := tk) fun b o e => Heap.get?_push_of_some _ (up b o e)
    exact k _ c' _ ctv H _ J (.refl H) (fun a o e => .inr (.inr e)) hT (Heap.get?_push_size _ rfl) (I.hok.fresh grown) (young _ grown) hco
  | none =>
    refine PySem.W.kla_makeFunction (mg := X.mg) (c := c) (P := Pt) (ps := ps) (closure_ok hfr) I.ok.glob globs hcd (B.code.keeps I.bk) objP tri found B.gP builtP fun c' ctv h' tk up low high record tab' => ?_
    obtain ⟨c0, oc, vs, t, same, hoc, hdata, hname⟩ := record
    cases same
    have grown : s.heap.objs.size ≤ h'.objs.size := Nat.le_trans low (Nat.le_of_lt high)
    have newC : H c' = none := I.hok.fresh low
    have Pc : Pt ≠ c' := ne_of_none atP newC
    have J := inv_table (t' := tk) (more := #[rawInt pos.line, rawInt pos.col, .ref c']) (h' := h'.push (PySem.W.kla_obj "<lambda>" (X.env.qual ++ "<lambda>") params body scope (cloFrom X.env.cells scope.names []) ((X.mg "__name__").getD .none) c' ctv)) I atP
      (fun b o hb e => Heap.get?_push_of_some _ (up b o hb e)) (Heap.get?_push_of_some _ tab') low ⟨oc, vs, t, Heap.get?_push_of_some _ hoc, hdata, hname⟩
    generalize hps : ps ++ #[rawInt pos.line, rawInt pos.col, .ref c'] = ps2 at J
    have list2 : ps2.toList = ps.toList ++ [rawInt pos.line, rawInt pos.col, .ref c'] := by rw [← hps]; simp
    have keeps : ExtN H (upd (upd H Pt (.tbl ps2)) c' (CodeO c' (X.env.qual ++ "<lambda>"))) := by
      intro b o e n
      have bP : b ≠ Pt := fun z => by
        subst z
        rw [atP] at e
        exact n ps (Option.some.inj e).symm
      rw [upd_ne (ne_of_none e newC), upd_ne bP]
      exact e
    have few : Few H (upd (upd H Pt (.tbl ps2)) c' (CodeO c' (X.env.qual ++ "<lambda>"))) := by
      intro b o e
      by_cases b1 : b = c'
      · subst b1
        rw [upd_same] at e
        exact .inr (.inl ⟨_, _, (Option.some.inj e).symm⟩)
      · rw [upd_ne b1] at e
        by_cases b2 : b = Pt
        · subst b2
          rw [upd_same] at e
          exact .inl ⟨_, (Option.some.inj e).symm⟩
        · rw [upd_ne b2] at e
          exact .inr (.inr e)
    have tabs2 : Tabs tb (upd (upd H Pt (.tbl ps2)) c' (CodeO c' (X.env.qual ++ "<lambda>"))) := by
      intro p hp
      by_cases same : p.1 = Pt
      · rw [hone p hp same, same]
        refine ⟨ps2, by rw [upd_ne Pc, upd_same], by rw [list2]; exact PySem.TriplesOk_snoc _ _ _ _ tri, ?_⟩
        intro p' cv hcv
        rw [list2] at hcv
        cases among_app _ tri hcv with
        | inl z =>
          obtain ⟨c0, e1, e2⟩ := known p' cv z
          exact ⟨c0, e1, keeps _ _ e2 codeO_ne⟩
        | inr z => exact ⟨c', z, upd_same⟩
      · obtain ⟨ps', a1, a2, a3⟩ := hT p hp
        refine ⟨ps', by rw [upd_ne (ne_of_none a1 newC), upd_ne same]; exact a1, a2, ?_⟩
        intro p' cv hcv
        obtain ⟨c0, e1, e2⟩ := a3 p' cv hcv
        exact ⟨c0, e1, keeps _ _ e2 codeO_ne⟩
    have fP : h'.objs.size ≠ Pt := Nat.ne_of_gt (Nat.lt_of_lt_of_le (Heap.lt_size objP) grown)
    refine k _ c' _ ctv _ _ J keeps few tabs2 (Heap.get?_push_size _ rfl) ?_ (young _ grown) upd_same
    rw [upd_ne (Nat.ne_of_gt high), upd_ne fP]
    exact I.hok.fresh grown
end
/-! ### g(e1, e2, lambda ..: ..) -/
/-- the base of the call: all that is not tracked and no frame -/
def bigBase (h : Heap) (H : Hp) (fs : List Addr) : Heap := PySem.W.hideAll h (trk h H ++ fs)
theorem bigBase_get {h : Heap} {H : Hp} {fs : List Addr} {b : Addr} {o : Obj} (e : h.get? b = some o) (n : H b = none) (nf : b ∉ fs) : (bigBase h H fs).get? b = some o :=
  PySem.W.hideAll_get _ e fun hm => by
    rcases List.mem_append.mp hm with hm | hm
    · have q : (H b).isSome = true := (List.mem_filter.mp hm).2
      rw [n] at q; simp at q
    · exact nf hm
theorem of_bigBase {h : Heap} {H : Hp} {fs : List Addr} {b : Addr} {o : Obj} (e : (bigBase h H fs).get? b = some o) : h.get? b = some o ∧ H b = none := by
  have e' : h.get? b = some o := PySem.W.of_hideAll _ e
  refine ⟨e', ?_⟩
  cases q : H b with
  | none => rfl
  | some x =>
    have hm : b ∈ trk h H ++ fs := List.mem_append_left _ (List.mem_filter.mpr ⟨List.mem_range.mpr (Heap.lt_size e'), by simp [q]⟩)
    have z : (bigBase h H fs).get? b = none := PySem.W.hideAll_none _ hm
    rw [z] at e; cases e
theorem bigBase_none {h : Heap} {H : Hp} {fs : List Addr} {b : Addr} (hb : b ∈ fs) : (bigBase h H fs).get? b = none := PySem.W.hideAll_none _ (List.mem_append_right _ hb)
theorem bigBase_size (h : Heap) (H : Hp) (fs : List Addr) : (bigBase h H fs).objs.size = h.objs.size := PySem.W.hideAll_size _ _
def tLam3 (tb : List (Addr × Str)) (q : Str) (spg : Addr → Addr → List (Option V) → Sp) (js : List Nat) (t1 t2 : TE) : TE := fun σ H Q => t1 σ H fun v1 H1 => t2 σ H1 fun v2 H2 => Tabs tb H2 ∧
  ∀ f c' H3, ExtN H2 H3 → Few H2 H3 → Tabs tb H3 → H3 c' = some (CodeO c' q) → spg f c' (js.map (slotAt σ)) [v1, v2, .ref f] H3 Q E0
section
variable {X : Cx}
theorem pe_lam3 {tb : List (Addr × Str)} {x q : Str} {g c P : Addr} {k : Nat} {fdg : FuncData} {psg fr : List Str} {js : List Nat} {spg : Addr → Addr → List (Option V) → Sp} {params : Arguments} {body : Expr} {scope : Scope} {e1 e2 : Expr} {t1 t2 : TE} {p lpos pos : Pos}
    (hq : X.env.qual ++ "<lambda>" = q) (hg : Gl X x) (hm : X.mg x = some (.ref g)) (hk : PySem.W.keepIn X.K (.ref g) = true) (hb : Binds X.K fdg psg []) (hr : Room k X.A)
    (TB : TabB X.base X.mg c P) (hcode : X.env.code = .ref c) (hmT : (P, q) ∈ tb) (hu : ∀ p ∈ tb, p.1 = P → p.2 = q) (hdef : defaultsOf params X.env = ([], []))
    (hfree : ∀ y ∈ scope.names, y.2 = .free → X.env.scope.names.lookup y.1 = some .cell ∨ X.env.scope.names.lookup y.1 = some .free) (hfr : ∀ y ∈ fr, (y, NameKind.free) ∈ scope.names) (hjs : js.map (fun j => X.N[j]?) = fr.map some) (hfn : ∀ y, X.fn y = true)
    (Fg : ∀ (base : Heap) (f c' : Addr) (pm ctv : Value) (cl : List (Str × Addr)) (ws : List (Option V)), base.get? f = some (PySem.W.kla_obj "<lambda>" q params body scope cl pm c' ctv) → CellsAt cl fr ws base (fun _ => none) → FnOk X.prog X.w X.K X.mg base CX0 k g fdg psg (spg f c' ws))
    (h1 : PE X e1 t1) (h2 : PE X e2 t2) (hdb : (x == ("__debug__" : Str)) = false := by decide)
    (he : starEach [e1, e2, .Lambda params body scope lpos] X.env = (false, eval e1 X.env) :: starEach [e2, .Lambda params body scope lpos] X.env := by rfl) (hpl : (backTo pos (starEach [e2, .Lambda params body scope lpos] X.env)).any (·.1) = false := by rfl)
    (he2 : backTo pos (starEach [e1, e2, .Lambda params body scope lpos] X.env) = [(false, eval e1 X.env), (false, eval e2 X.env), (false, eval (.Lambda params body scope lpos) X.env)] := by rfl) :
    PE X (.Call (.Name x p) [e1, e2, .Lambda params body scope lpos] [] pos) (tLam3 tb q spg js t1 t2) := by
  subst hq
  refine ⟨fun pins s σ H Q I h => ?_⟩
  refine wpAny_Call_Name_kw (ld_glob I hg hm ?_ hdb)
  refine PySem.W.callWith_K (h₀ := X.base) I.ok.mod.kin hk ?_ he hpl
  rw [he2]
  refine Calls.spliced_cons (thn (h1.run pins s σ H _ I h) fun u1 s1 ⟨v1, H1, I1, r1, q1⟩ => ?_)
  refine Calls.spliced_cons (thn (h2.run pins s1 σ H1 _ I1 q1) fun u2 s2 ⟨v2, H2, I2, r2, q2⟩ => ?_)
  obtain ⟨hT, hQ⟩ := q2
  have hfree' : ∀ y ∈ scope.names, y.2 = .free → ∃ c, X.env.cells.lookup y.1 = some c := fun y hy e => (hfree y hy e).elim (fun z => I.ok.has _ (.inl z)) fun z => I.ok.has _ (.inr z)
  refine Calls.spliced_cons (lam_few rfl I2 TB hcode hmT hu hT hdef hfree' fun f c' pm ctv H3 s3 I3 eN few3 T3 hf hfn3 hfr3 hco => ?_)
  refine Calls.spliced_nil ⟨I3.kIn, ?_⟩
  have cm : ∀ {y c}, (cloFrom X.env.cells scope.names []).lookup y = some c → X.env.cells.lookup y = some c := fun {y c} e => clo_cm hfree' e
  have cap : Caps X (cloFrom X.env.cells scope.names []) fr js := Caps.made I.ok hfree hfr hjs
  have CA := cells_of I3 cap
  have nofs : ∀ y c, X.env.cells.lookup y = some c → c ∉ frs X.stack := fun y c e z => by
    rcases List.mem_cons.mp (I3.stkSub _ z) with e2 | e2
    · exact I3.cne y c e e2
    · have h1 := I3.ok.cab y c (hfn y) e
      obtain ⟨_, o, ho, _⟩ := I3.ok.funs.mem e2
      exact absurd (Nat.lt_of_lt_of_le (Heap.lt_size ho) h1) (Nat.lt_irrefl _)
  have getB : ∀ {b : Addr} {o : Obj}, s3.heap.get? b = some o → H3 b = none → b ∉ frs X.stack → (bigBase s3.heap H3 (frs X.stack)).get? b = some o := fun e n nf => bigBase_get e n nf
  have ofBase : ∀ b o, X.base.get? b = some o → (bigBase s3.heap H3 (frs X.stack)).get? b = some o := fun b o e => by
    obtain ⟨a1, a2⟩ := I3.bs b o e
    refine getB a1 a2 fun z => ?_
    have := (I3.stack.mem z).1
    rw [e] at this
    cases this
  have C3 : CellsAt (cloFrom X.env.cells scope.names []) fr (js.map (slotAt σ)) (bigBase s3.heap H3 (frs X.stack)) fun _ => none := by
    refine ⟨CA.len, fun y c e => ⟨rfl, ?_⟩, CA.inj, fun i y hi => ?_⟩
    · obtain ⟨n1, v, o, ho, hd⟩ := CA.all y c e
      exact ⟨v, o, getB ho n1 (nofs y c (cm e)), hd⟩
    · obtain ⟨c, e1, e2⟩ := CA.has i y hi
      refine ⟨c, e1, fun v hv => ?_⟩
      obtain ⟨u, r, o, ho, hd⟩ := e2 v hv
      exact ⟨u, r, o, getB ho (CA.all y c e1).1 (nofs y c (cm e1)), hd⟩
  have F := Fg (bigBase s3.heap H3 (frs X.stack)) f c' pm ctv (cloFrom X.env.cells scope.names []) (js.map (slotAt σ)) (getB hf hfn3 hfr3) C3
  have funs : ∀ (l : List Env), (∀ b ∈ frs l, b ∈ frs X.stack) → s3.heap.FunFrames X.base l → s3.heap.FunFrames (bigBase s3.heap H3 (frs X.stack)) l := by
    intro l
    induction l with
    | nil => intro _ _; trivial
    | cons env r ih =>
      intro hs hl
      obtain ⟨hk, ⟨L, o, hf, hn, ho, hd⟩, hr⟩ := hl
      have hL : L ∈ frs X.stack := hs L (by unfold frs; rw [List.filterMap_cons, hf]; exact List.mem_cons_self)
      exact ⟨hk, ⟨L, o, hf, bigBase_none hL, ho, hd⟩, ih (fun b hb => hs b (by unfold frs; rw [List.filterMap_cons]; split <;> first | exact hb | exact List.mem_cons_of_mem _ hb)) hr⟩
  have e0 : Env0 X.prog X.w X.K X.mg (bigBase s3.heap H3 (frs X.stack)) X.A X.stack s3 H3 := by
    have a := I3.env0
    refine ⟨a.frames, ⟨a.mod.kin.keeps ofBase, ?_, ?_, a.mod.nolimit.keeps ofBase⟩, fun b o e => of_bigBase e, Nat.le_of_eq (bigBase_size _ _ _), funs X.stack (fun _ hb => hb) a.funs, a.frf, a.hok, a.bare⟩
    · obtain ⟨o, es, ep, h1, h2⟩ := a.mod.glob
      exact ⟨o, es, ep, ofBase _ _ h1, h2⟩
    · obtain ⟨mb, ⟨o, es, ep, h1, h2⟩, h3⟩ := a.mod.blt
      exact ⟨mb, ⟨o, es, ep, ofBase _ _ h1, h2⟩, h3⟩
  have hsp := hQ f c' H3 eN few3 T3 hco
  have r3 : Vals [v1, v2, V.ref f] [u1, u2, Value.ref f] := .cons r1 (.cons r2 (.cons rfl .nil))
  have hl : ([u1, u2, Value.ref f] ++ []).length = psg.length := by
    rw [← F.len _ _ _ _ hsp] <;> rfl
  refine wpAny_call (codeAny_mono (F.run X.A X.stack s3 H3 ⟨[u1, u2, .ref f], []⟩ [u1, u2, .ref f] [v1, v2, .ref f] Q E0 hr e0 (hb s3 [u1, u2, .ref f] I3.kIn hl) r3 hsp) fun r s' hq => ?_)
  cases r with
  | error e => exact (show False from hq).elim
  | ok fl =>
    cases fl with
    | ret u => exact I3.after hq
    | next => exact False.elim hq
    | brk => exact False.elim hq
    | cont => exact False.elim hq
end
end K95
set_option Elab.async false
set_option linter.all false
set_option maxRecDepth 100000
set_option maxHeartbeats 4000000
set_option autoImplicit false
/-! dicts whose keys are texts and tuples together -/
namespace K95
open PySem PySem.Spec PyProof.Rows L2
section
variable {prog : Program} {w : World} {A : Around} {E : Value → Shared → Prop} {s : Shared}
abbrev NkE := NestedKey × Value × Value
def nkEntry (w : World) (y : NkE) : DictEntry := ⟨y.1.hash w, y.2.1, y.2.2⟩
theorem nk_entry_at {es : Array DictEntry} {ys : List NkE} (he : es.toList = ys.map (nkEntry w)) (j : Nat) : es[j]? = (ys[j]?).map (nkEntry w) := by
  rw [← Array.getElem?_toList, he, List.getElem?_map]
theorem nk_size {es : Array DictEntry} {ys : List NkE} (he : es.toList = ys.map (nkEntry w)) : es.size = ys.length := by
  rw [← Array.length_toList, he, List.length_map]
theorem nk_unique {ys : List NkE} (hn : (ys.map (·.1)).Nodup) {i j : Nat} {k : NestedKey} {p q : Value × Value} (hi : ys[i]? = some (k, p)) (hj : ys[j]? = some (k, q)) : i = j := by
  have hi' : (ys.map (·.1))[i]? = some k := by rw [List.getElem?_map, hi]; rfl
  have hj' : (ys.map (·.1))[j]? = some k := by rw [List.getElem?_map, hj]; rfl
  exact (List.getElem?_inj (List.getElem?_eq_some_iff.mp hi').1 hn).mp (hi'.trans hj'.symm)
/-- what is found -/
def NkHit (ys : List NkE) (k : NestedKey) (n : Nat) (hit : Option Nat) : Prop := (hit = none ∧ ∀ (j : Nat) (p : Value × Value), j < n → ys[j]? ≠ some (k, p)) ∨ ∃ (j : Nat) (p : Value × Value), hit = some j ∧ j < n ∧ ys[j]? = some (k, p)
theorem nk_eq {x y : NestedKey} {a b : Value} {Q : Bool → Shared → Prop} (hu : A.units + 8 < cLine) (hx : NestedIs s.heap x a) (hy : NestedIs s.heap y b) (dx : x.depth ≤ 8) (h : Q (decide (x = y)) s) : wpAny (model prog w) A (PySem.eqBool a b) Q E s :=
  PySem.eqAt_key x y A s _ _ hx hy (by have := Nat.min_le_left x.depth y.depth; omega) _ _ _ _ (by rw [← NestedKey.decide_eq]; exact h)
/-- a walk over the places of one hash, plain -/
theorem nk_plain {d : Addr} {o : Obj} {es : Array DictEntry} {ep : Nat} {ys : List NkE} {k : NestedKey} {key : Value} {Q : Option Nat → Shared → Prop} (hu : A.units + 8 < cLine) (hkey : NestedIs s.heap k key)
    (ho : s.heap.get? d = some o) (hd : o.data = .dict es ep) (he : es.toList = ys.map (nkEntry w)) (his : ∀ y ∈ ys, NestedIs s.heap y.1 y.2.1 ∧ y.1.depth ≤ 8) (hn : (ys.map (·.1)).Nodup)
    (hnone : (∀ (j : Nat) (p : Value × Value), ys[j]? ≠ some (k, p)) → Q none s) (hsome : ∀ (j : Nat) (p : Value × Value), ys[j]? = some (k, p) → Q (some j) s) :
    wpAny (model prog w) A (dictWalkPlain d key (k.hash w) es (placesWithHash es.size (fun i => es[i]?.map (·.hash)) (k.hash w))) Q E s := by
  have hsz : es.size = ys.length := nk_size he
  have haskey : ∀ (j : Nat) (p : Value × Value), ys[j]? = some (k, p) → ((es[j]?.map (·.hash)) == some (k.hash w)) = true := by
    intro j p hj
    rw [nk_entry_at he j, hj]
    simp [nkEntry]
  unfold dictWalkPlain
  refine wpAny_bind ?_
  refine wpAny_forIn_list _
    (fun rest b s' => s' = s ∧ b = (none, ()) ∧ ∃ i, rest = (List.range' i (es.size - i)).filter (fun i => (es[i]?.map (·.hash)) == some (k.hash w)) ∧ i ≤ es.size ∧
      ∀ (j : Nat) (p : Value × Value), j < i → ys[j]? ≠ some (k, p)) _ ?_ ?_ _ _
    ⟨rfl, rfl, 0, by rw [placesWithHash, List.range_eq_range', Nat.sub_zero], Nat.zero_le _, fun _ _ h => absurd h (Nat.not_lt_zero _)⟩
  · rintro x rest b s' ⟨rfl, rfl, i, hr, hi, hno⟩
    obtain ⟨hix, hxn, hpx, hskip, hrest⟩ := filter_range'_cons _ _ _ _ _ hr.symm
    have hlt : x < es.size := by omega
    obtain ⟨⟨k', kv, v'⟩, hkv⟩ : ∃ y, ys[x]? = some y := ⟨ys[x]'(by rw [← hsz]; exact hlt), List.getElem?_eq_getElem _⟩
    obtain ⟨hib, hdb⟩ := his _ (List.mem_of_getElem? hkv)
    have hex : es[x]? = some ⟨k'.hash w, kv, v'⟩ := by rw [nk_entry_at he x, hkv]; rfl
    have hnox : ∀ (j : Nat) (p : Value × Value), j < x → ys[j]? ≠ some (k, p) := fun j p hjx hj => by
      rcases Nat.lt_or_ge j i with h | h
      · exact hno j p h hj
      · have := hskip j h hjx
        rw [haskey j p hj] at this
        exact absurd this (by decide)
    have hnext : ¬ k' = k → ∃ i, rest = (List.range' i (es.size - i)).filter (fun i => (es[i]?.map (·.hash)) == some (k.hash w)) ∧ i ≤ es.size ∧ ∀ (j : Nat) (p : Value × Value), j < i → ys[j]? ≠ some (k, p) := fun hne =>
      ⟨x + 1, by rw [hrest]; congr 2; omega, hlt, fun j p hji hj => by
        rcases Nat.lt_or_ge j x with h | h
        · exact hnox j p h hj
        · have e : j = x := by omega
          subst e
          rw [hkv] at hj
          injection hj with hj
          injection hj with hj
          exact hne hj⟩
    rw [hex]
    dsimp only
    by_cases hh : (k'.hash w == k.hash w) = true
    · rw [if_pos hh]
      refine wpAny_bind (wpAny_dictEpoch ho hd (wpAny_bind (nk_eq (x := k') (y := k) hu hib hkey hdb (wpAny_bind (wpAny_dictEpoch ho hd ?_)))))
      show wpAny _ _ (if (ep != ep) = true then _ else _) _ E _
      rw [if_neg (by simp)]
      by_cases hkk : k' = k
      · rw [decide_eq_true hkk]
        subst hkk
        first | rw [if_pos rfl] | skip
        first
          | exact wpAny_bind (wpAny_rule (wpAny_pure (wpAny_pure (hsome x _ hkv))))
          | exact wpAny_bind (wpAny_pure (wpAny_bind (wpAny_rule (wpAny_pure (wpAny_pure (hsome x _ hkv))))))
      · rw [decide_eq_false hkk]
        simp only [Bool.false_eq_true, if_false]
        refine wpAny_bind (wpAny_rule ?_)
        first
          | exact wpAny_pure ⟨rfl, rfl, hnext hkk⟩
          | exact wpAny_bind (wpAny_pure (wpAny_pure ⟨rfl, rfl, hnext hkk⟩))
    · rw [if_neg hh]
      refine wpAny_pure ⟨rfl, rfl, hnext ?_⟩
      intro hkk
      rw [hkk] at hh; simp at hh
  · rintro b s' ⟨rfl, rfl, i, hr, hi, hno⟩
    refine wpAny_pure (hnone fun j p hj => ?_)
    rcases Nat.lt_or_ge j i with h | h
    · exact hno j p h hj
    · have hjl : j < es.size := by
        rw [hsz]
        exact (List.getElem?_eq_some_iff.mp hj).1
      have := List.filter_eq_nil_iff.mp hr.symm j (List.mem_range'_1.mpr ⟨h, by omega⟩)
      rw [haskey j p hj] at this
      exact absurd rfl this
theorem nk_may {k : NestedKey} {key : Value} {stored : List Value} {Q : Bool → Shared → Prop} (hkey : NestedIs s.heap k key) (hkd : k.depth ≤ 8)
    (hst : ∀ v ∈ stored, ∃ k', NestedIs s.heap k' v ∧ k'.depth ≤ 8) (h : Q false s) : wpAny (model prog w) A (tableMayTell key stored) Q E s := by
  unfold tableMayTell
  split
  · exact wpAny_pure h
  · refine wpAny_bind (PySem.quiet_key k key 8 s hkey hkd A E _ ?_)
    simp only [Bool.not_true, Bool.false_eq_true, if_false]
    refine wpAny_bind ?_
    refine wpAny_forIn_list _ (fun rest r s' => s' = s ∧ r = (none, ()) ∧ ∀ v ∈ rest, ∃ k', NestedIs s.heap k' v ∧ k'.depth ≤ 8) _ ?_ ?_ _ _ ⟨rfl, rfl, hst⟩
    · rintro x rest r s' ⟨rfl, rfl, hr⟩
      obtain ⟨k', hb, hd⟩ := hr x List.mem_cons_self
      refine wpAny_bind (PySem.quiet_key k' x 8 s' hb hd A E _ ?_)
      simp only [Bool.not_true, Bool.false_eq_true, if_false]
      exact wpAny_pure ⟨rfl, rfl, fun v hv => hr v (List.mem_cons_of_mem _ hv)⟩
    · rintro r s' ⟨rfl, rfl, _⟩
      exact wpAny_pure h

theorem nk_hit_next {ys : List NkE} {k k' : NestedKey} {x : Nat} {hit : Option Nat} {q : Value × Value} (h : NkHit ys k x hit) (hkv : ys[x]? = some (k', q)) (hne : ¬ k' = k) : NkHit ys k (x + 1) hit := by
  rcases h with ⟨h0, hno⟩ | ⟨j, p, h1, hjx, hj⟩
  · refine .inl ⟨h0, fun j p hjx hj => ?_⟩
    rcases Nat.lt_or_ge j x with h | h
    · exact hno j p h hj
    · have hjx' : j = x := by omega
      subst hjx'
      rw [hkv] at hj
      injection hj with hj
      injection hj with hj
      exact hne hj
  · exact .inr ⟨j, p, h1, by omega, hj⟩
/-- the place of a key, whatever the dict's keys are -/
theorem nk_find {d : Addr} {o : Obj} {es : Array DictEntry} {ep : Nat} {ys : List NkE} {k : NestedKey} {key : Value} {Q : Option Nat → Shared → Prop} (hu : A.units + 8 < cLine) (hkey : NestedIs s.heap k key) (hkd : k.depth ≤ 8) (hkt : (∃ x t, key = .str x t) ∨ ∃ a, key = .ref a)
    (ho : s.heap.get? d = some o) (hd : o.data = .dict es ep) (he : es.toList = ys.map (nkEntry w)) (his : ∀ y ∈ ys, NestedIs s.heap y.1 y.2.1 ∧ y.1.depth ≤ 8) (hn : (ys.map (·.1)).Nodup)
    (hnone : (∀ (j : Nat) (p : Value × Value), ys[j]? ≠ some (k, p)) → Q none s) (hsome : ∀ (j : Nat) (p : Value × Value), ys[j]? = some (k, p) → Q (some j) s) :
    wpAny (model prog w) A (dictFind d key (k.hash w)) Q E s := by
  have hsz : es.size = ys.length := nk_size he
  have haskey : ∀ (j : Nat) (p : Value × Value), ys[j]? = some (k, p) → ((es[j]?.map (·.hash)) == some (k.hash w)) = true := by
    intro j p hj
    rw [nk_entry_at he j, hj]
    simp [nkEntry]
  have hmem : ∀ e ∈ es, ∃ x ∈ ys, e = nkEntry w x := by
    intro e hin
    have : e ∈ ys.map (nkEntry w) := he ▸ Array.mem_toList_iff.mpr hin
    obtain ⟨x, hx, rfl⟩ := List.mem_map.mp this
    exact ⟨x, hx, rfl⟩
  have hst : ∀ v ∈ (placesWithHash es.size (fun i => es[i]?.map (·.hash)) (k.hash w)).filterMap (fun i => es[i]?.map (·.key)), ∃ k', NestedIs s.heap k' v ∧ k'.depth ≤ 8 := by
    intro v hv
    obtain ⟨i, _, hi⟩ := List.mem_filterMap.mp hv
    cases hei : es[i]? with
    | none => rw [hei] at hi; cases hi
    | some e =>
      rw [hei] at hi
      obtain rfl : e.key = v := by simpa using hi
      obtain ⟨x, hx, rfl⟩ := hmem e (Array.mem_of_getElem? hei)
      exact ⟨x.1, his x hx⟩
  rcases hkt with ⟨x, t, ex⟩ | ⟨a, ea⟩
  · subst ex
    have ek : k = .text x := by cases hkey; rfl
    by_cases hall : (es.all fun e => isExactStrKey e.key) = true
    · have hks : KeysOf (strKind prog w) es := fun e he' => by
        obtain ⟨y, hy, rfl⟩ := hmem e he'
        have h1 : isExactStrKey (nkEntry w y).key = true := by
          have h2 := Array.all_eq_true.mp hall
          obtain ⟨j, hj, e2⟩ := Array.mem_iff_getElem.mp he'
          have h3 := h2 j hj
          rw [e2] at h3
          exact h3
        have h4 := (his y hy).1
        obtain ⟨yk, ykv, yv⟩ := y
        cases h4 with
        | text z t' => exact ⟨z, strKind_is prog w z t', rfl⟩
        | _ => cases h1
      subst ek
      refine wpAny_dictFind_of (knd := strKind prog w) (k := x) (strKind_is prog w x t) ho hd hks ?_
      have isx : ∀ (j : Nat) (p : Value × Value), ys[j]? = some (.text x, p) → ∃ e, es[j]? = some e ∧ (strKind prog w).is x e.key = true := fun j p hj => by
        have h1 := (his _ (List.mem_of_getElem? hj)).1
        obtain ⟨kv, v⟩ := p
        have h2 : ∃ t', kv = .str x t' := by
          have h3 : NestedIs s.heap (.text x) kv := h1
          cases h3 with
          | text _ t' => exact ⟨t', rfl⟩
        obtain ⟨t', rfl⟩ := h2
        exact ⟨_, by rw [nk_entry_at he j, hj]; rfl, strKind_is prog w x t'⟩
      cases hfi : es.findIdx? (fun e => (strKind prog w).is x e.key) with
      | none =>
        refine hnone fun j p hj => ?_
        obtain ⟨e, h1, h2⟩ := isx j p hj
        have h3 := (Array.findIdx?_eq_none_iff.mp hfi) e (Array.mem_of_getElem? h1)
        rw [h3] at h2
        cases h2
      | some j =>
        obtain ⟨hlt, h1, h2⟩ := Array.findIdx?_eq_some_iff_getElem.mp hfi
        have hj : ∃ y, ys[j]? = some y := ⟨ys[j]'(by rw [← hsz]; exact hlt), List.getElem?_eq_getElem _⟩
        obtain ⟨⟨k', kv, v⟩, hj⟩ := hj
        have h3 : es[j]? = some (nkEntry w (k', kv, v)) := by rw [nk_entry_at he j, hj]; rfl
        have h4 : es[j] = nkEntry w (k', kv, v) := Option.some.inj ((Array.getElem?_eq_getElem hlt).symm.trans h3)
        rw [h4] at h1
        obtain ⟨t', h5⟩ := Value.isStrOf_shape (x := x) (v := kv) h1
        have h6 := (his _ (List.mem_of_getElem? hj)).1
        have h7 : k' = .text x := by
          subst h5
          have h8 : NestedIs s.heap k' (.str x t') := h6
          cases h8
          rfl
        subst h7
        exact hsome j _ hj
    · unfold dictFind
      try with_reducible refine wpAny_holding ?_
      refine wpAny_bind (wpAny_dictEntries ho hd ?_)
      dsimp only
      rw [if_neg hall]
      by_cases hp : ((Value.str x t :: (placesWithHash es.size (fun i => es[i]?.map (·.hash)) (k.hash w)).filterMap (fun i => es[i]?.map (·.key))).all carriedByValue) = true
      · rw [if_pos hp]
        exact nk_plain hu hkey ho hd he his hn hnone hsome
      · rw [if_neg hp]
        by_cases hone : (((placesWithHash es.size (fun i => es[i]?.map (·.hash)) (k.hash w)).filterMap (fun i => es[i]?.map (·.key))) == [Value.str x t]) = true <;>
        (first | rw [if_pos hone] | rw [if_neg hone]) <;> (first | refine wpAny_bind (wpAny_pure ?_) | refine wpAny_bind (nk_may hkey hkd hst ?_)) <;> (
        rw [if_neg (by simp)]
        refine wpAny_bind ?_
        refine wpAny_forIn_list _
          (fun rest b s' => s' = s ∧ ∃ i hit, b = (none, hit) ∧ rest = (List.range' i (es.size - i)).filter (fun i => (es[i]?.map (·.hash)) == some (k.hash w)) ∧ i ≤ es.size ∧ NkHit ys k i hit) _ ?_ ?_ _ _
          ⟨rfl, 0, none, rfl, by rw [placesWithHash, List.range_eq_range', Nat.sub_zero], Nat.zero_le _, .inl ⟨rfl, fun _ _ h => absurd h (Nat.not_lt_zero _)⟩⟩
        · rintro x rest b s' ⟨rfl, i, hit, rfl, hr, hi, hH⟩
          obtain ⟨hix, hxn, hpx, hskip, hrest⟩ := filter_range'_cons _ _ _ _ _ hr.symm
          have hlt : x < es.size := by omega
          have hrest' : rest = (List.range' (x + 1) (es.size - (x + 1))).filter (fun i => (es[i]?.map (·.hash)) == some (k.hash w)) := by rw [hrest]; congr 2; omega
          obtain ⟨⟨k', kv, v'⟩, hkv⟩ : ∃ y, ys[x]? = some y := ⟨ys[x]'(by rw [← hsz]; exact hlt), List.getElem?_eq_getElem _⟩
          obtain ⟨hib, hdb⟩ := his _ (List.mem_of_getElem? hkv)
          have hex : es[x]? = some ⟨k'.hash w, kv, v'⟩ := by rw [nk_entry_at he x, hkv]; rfl
          have hHx : NkHit ys k x hit := by
            rcases hH with ⟨h0, hno⟩ | ⟨j, p, h1, hji, hj⟩
            · refine .inl ⟨h0, fun j p hjx hj => ?_⟩
              rcases Nat.lt_or_ge j i with h | h
              · exact hno j p h hj
              · have := hskip j h hjx
                rw [haskey j p hj] at this
                exact absurd this (by decide)
            · exact .inr ⟨j, p, h1, by omega, hj⟩
          rw [hex]
          dsimp only
          by_cases hh : (k'.hash w == k.hash w) = true
          · rw [if_pos hh]
            refine wpAny_bind (wpAny_dictEpoch ho hd (wpAny_bind (nk_eq (x := k') (y := k) hu hib hkey hdb (wpAny_bind (wpAny_dictEpoch ho hd ?_)))))
            show wpAny _ _ (if (ep != ep) = true then _ else _) _ E _
            rw [if_neg (by simp)]
            by_cases hkk : k' = k
            · rw [decide_eq_true hkk]
              subst hkk
              rcases hHx with ⟨rfl, _⟩ | ⟨j, p, _, hjx, hj⟩
              · first | rw [if_pos rfl] | skip
                simp only [Option.isSome_none, Bool.false_eq_true, if_false]
                first | refine wpAny_bind (wpAny_pure ?_) | skip
                refine wpAny_bind (wpAny_rule ?_)
                split
                · exact wpAny_pure (wpAny_pure (hsome x _ hkv))
                · exact wpAny_pure ⟨rfl, x + 1, some x, rfl, hrest', hlt, .inr ⟨x, _, rfl, Nat.lt_succ_self x, hkv⟩⟩
              · exact absurd (nk_unique hn hj hkv) (by omega)
            · rw [decide_eq_false hkk]
              simp only [Bool.false_eq_true, if_false]
              refine wpAny_bind (wpAny_rule ?_)
              first | rw [if_neg (by simp)] | skip
              first
                | exact wpAny_pure ⟨rfl, x + 1, hit, rfl, hrest', hlt, nk_hit_next hHx hkv hkk⟩
                | exact wpAny_bind (wpAny_pure (wpAny_pure ⟨rfl, x + 1, hit, rfl, hrest', hlt, nk_hit_next hHx hkv hkk⟩))
          · rw [if_neg hh]
            refine wpAny_pure ⟨rfl, x + 1, hit, rfl, hrest', hlt, nk_hit_next hHx hkv ?_⟩
            intro hkk
            rw [hkk] at hh; simp at hh
        · rintro b s' ⟨rfl, i, hit, rfl, hr, hi, hH⟩
          have hall : ∀ j, i ≤ j → j < es.size → ((es[j]?.map (·.hash)) == some (k.hash w)) = false := by
            intro j h1 h2
            have := List.filter_eq_nil_iff.mp hr.symm j (List.mem_range'_1.mpr ⟨h1, by omega⟩)
            simpa using this
          rcases hH with ⟨rfl, hno⟩ | ⟨j, p, rfl, _, hj⟩
          · refine wpAny_pure (hnone fun j p hj => ?_)
            rcases Nat.lt_or_ge j i with h | h
            · exact hno j p h hj
            · have hjl : j < es.size := by
                rw [hsz]
                exact (List.getElem?_eq_some_iff.mp hj).1
              have := hall j h hjl
              rw [haskey j p hj] at this
              exact absurd this (by decide)
          · exact wpAny_pure (hsome j p hj))
  · subst ea
    have hany : ¬ (es.any fun e => e.key == Value.ref a && e.hash != k.hash w) = true := by
      rw [← Array.any_toList, List.any_eq_true]
      rintro ⟨e, hin, hc⟩
      obtain ⟨x, hx, rfl⟩ := hmem e (Array.mem_toList_iff.mp hin)
      simp only [nkEntry, Bool.and_eq_true, beq_iff_eq, bne_iff_ne, ne_eq] at hc
      obtain ⟨hxa, hne⟩ := hc
      have := (his x hx).1
      rw [hxa] at this
      exact hne (by rw [NestedIs.inj _ _ _ this hkey])
    unfold dictFind
    try with_reducible refine wpAny_holding ?_
    refine wpAny_bind (wpAny_dictEntries ho hd ?_)
    dsimp only
    rw [if_neg (show ¬ ((Value.ref a :: (placesWithHash es.size (fun i => es[i]?.map (·.hash)) (k.hash w)).filterMap (fun i => es[i]?.map (·.key))).all carriedByValue) = true by simp [carriedByValue])]
    rw [if_neg hany]
    by_cases hone : (((placesWithHash es.size (fun i => es[i]?.map (·.hash)) (k.hash w)).filterMap (fun i => es[i]?.map (·.key))) == [Value.ref a]) = true <;>
    (first | rw [if_pos hone] | rw [if_neg hone]) <;> (first | refine wpAny_bind (wpAny_pure ?_) | refine wpAny_bind (nk_may hkey hkd hst ?_)) <;> (
    rw [if_neg (by simp)]
    refine wpAny_bind ?_
    refine wpAny_forIn_list _
      (fun rest b s' => s' = s ∧ ∃ i hit, b = (none, hit) ∧ rest = (List.range' i (es.size - i)).filter (fun i => (es[i]?.map (·.hash)) == some (k.hash w)) ∧ i ≤ es.size ∧ NkHit ys k i hit) _ ?_ ?_ _ _
      ⟨rfl, 0, none, rfl, by rw [placesWithHash, List.range_eq_range', Nat.sub_zero], Nat.zero_le _, .inl ⟨rfl, fun _ _ h => absurd h (Nat.not_lt_zero _)⟩⟩
    · rintro x rest b s' ⟨rfl, i, hit, rfl, hr, hi, hH⟩
      obtain ⟨hix, hxn, hpx, hskip, hrest⟩ := filter_range'_cons _ _ _ _ _ hr.symm
      have hlt : x < es.size := by omega
      have hrest' : rest = (List.range' (x + 1) (es.size - (x + 1))).filter (fun i => (es[i]?.map (·.hash)) == some (k.hash w)) := by rw [hrest]; congr 2; omega
      obtain ⟨⟨k', kv, v'⟩, hkv⟩ : ∃ y, ys[x]? = some y := ⟨ys[x]'(by rw [← hsz]; exact hlt), List.getElem?_eq_getElem _⟩
      obtain ⟨hib, hdb⟩ := his _ (List.mem_of_getElem? hkv)
      have hex : es[x]? = some ⟨k'.hash w, kv, v'⟩ := by rw [nk_entry_at he x, hkv]; rfl
      have hHx : NkHit ys k x hit := by
        rcases hH with ⟨h0, hno⟩ | ⟨j, p, h1, hji, hj⟩
        · refine .inl ⟨h0, fun j p hjx hj => ?_⟩
          rcases Nat.lt_or_ge j i with h | h
          · exact hno j p h hj
          · have := hskip j h hjx
            rw [haskey j p hj] at this
            exact absurd this (by decide)
        · exact .inr ⟨j, p, h1, by omega, hj⟩
      rw [hex]
      dsimp only
      by_cases hh : (k'.hash w == k.hash w) = true
      · rw [if_pos hh]
        refine wpAny_bind (wpAny_dictEpoch ho hd (wpAny_bind (nk_eq (x := k') (y := k) hu hib hkey hdb (wpAny_bind (wpAny_dictEpoch ho hd ?_)))))
        show wpAny _ _ (if (ep != ep) = true then _ else _) _ E _
        rw [if_neg (by simp)]
        by_cases hkk : k' = k
        · rw [decide_eq_true hkk]
          subst hkk
          rcases hHx with ⟨rfl, _⟩ | ⟨j, p, _, hjx, hj⟩
          · first | rw [if_pos rfl] | skip
            simp only [Option.isSome_none, Bool.false_eq_true, if_false]
            first | refine wpAny_bind (wpAny_pure ?_) | skip
            refine wpAny_bind (wpAny_rule ?_)
            split
            · exact wpAny_pure (wpAny_pure (hsome x _ hkv))
            · exact wpAny_pure ⟨rfl, x + 1, some x, rfl, hrest', hlt, .inr ⟨x, _, rfl, Nat.lt_succ_self x, hkv⟩⟩
          · exact absurd (nk_unique hn hj hkv) (by omega)
        · rw [decide_eq_false hkk]
          simp only [Bool.false_eq_true, if_false]
          refine wpAny_bind (wpAny_rule ?_)
          first | rw [if_neg (by simp)] | skip
          first
            | exact wpAny_pure ⟨rfl, x + 1, hit, rfl, hrest', hlt, nk_hit_next hHx hkv hkk⟩
            | exact wpAny_bind (wpAny_pure (wpAny_pure ⟨rfl, x + 1, hit, rfl, hrest', hlt, nk_hit_next hHx hkv hkk⟩))
      · rw [if_neg hh]
        refine wpAny_pure ⟨rfl, x + 1, hit, rfl, hrest', hlt, nk_hit_next hHx hkv ?_⟩
        intro hkk
        rw [hkk] at hh; simp at hh
    · rintro b s' ⟨rfl, i, hit, rfl, hr, hi, hH⟩
      have hall : ∀ j, i ≤ j → j < es.size → ((es[j]?.map (·.hash)) == some (k.hash w)) = false := by
        intro j h1 h2
        have := List.filter_eq_nil_iff.mp hr.symm j (List.mem_range'_1.mpr ⟨h1, by omega⟩)
        simpa using this
      rcases hH with ⟨rfl, hno⟩ | ⟨j, p, rfl, _, hj⟩
      · refine wpAny_pure (hnone fun j p hj => ?_)
        rcases Nat.lt_or_ge j i with h | h
        · exact hno j p h hj
        · have hjl : j < es.size := by
            rw [hsz]
            exact (List.getElem?_eq_some_iff.mp hj).1
          have := hall j h hjl
          rw [haskey j p hj] at this
          exact absurd this (by decide)
      · exact wpAny_pure (hsome j p hj))
end
end K95
set_option Elab.async false
set_option linter.all false
set_option maxRecDepth 100000
set_option maxHeartbeats 4000000
set_option autoImplicit false
/-! a monoid's memory: rules -/
namespace K95
open PySem PySem.Spec PyProof.Rows L2
section
variable {prog : Program} {w : World} {A : Around} {E : Value → Shared → Prop} {s : Shared}
/-- at d stands a dict with these entries -/
def DictN (w : World) (h : Heap) (d : Addr) (ys : List NkE) : Prop := ∃ o es ep, h.get? d = some o ∧ o.ExactDict ∧ o.data = .dict es ep ∧ es.toList = ys.map (nkEntry w) ∧ (∀ y ∈ ys, NestedIs h y.1 y.2.1 ∧ y.1.depth ≤ 8) ∧ (ys.map (·.1)).Nodup
theorem DictN.typeIs {d : Addr} {ys : List NkE} (x : DictN w s.heap d ys) : s.TypeIs (.ref d) "dict" := let ⟨o, _, _, ho, hc, _⟩ := x; ⟨o, ho, hc.1⟩
def nkAt (ys : List NkE) (k : NestedKey) : Option (Value × Value) := (ys.find? fun y => decide (y.1 = k)).map (·.2)
theorem nkAt_none {ys : List NkE} {k : NestedKey} (h : ∀ (j : Nat) (p : Value × Value), ys[j]? ≠ some (k, p)) : nkAt ys k = none := by
  unfold nkAt
  rw [List.find?_eq_none.mpr]
  · rfl
  · intro y hy e
    obtain ⟨j, hj⟩ := List.mem_iff_getElem?.mp hy
    exact h j y.2 (by rw [hj, ← of_decide_eq_true e])
theorem nkAt_some {ys : List NkE} {k : NestedKey} (hn : (ys.map (·.1)).Nodup) {j : Nat} {p : Value × Value} (h : ys[j]? = some (k, p)) : nkAt ys k = some p := by
  unfold nkAt
  cases q : ys.find? fun y => decide (y.1 = k) with
  | none => exact absurd (decide_eq_true rfl) (List.find?_eq_none.mp q _ (List.mem_of_getElem? h))
  | some y =>
    have hy := List.mem_of_find?_eq_some q
    have he : y.1 = k := of_decide_eq_true (List.find?_some (p := fun y : NkE => decide (y.1 = k)) q)
    obtain ⟨i, hi⟩ := List.mem_iff_getElem?.mp hy
    have hi' : ys[i]? = some (k, y.2) := by rw [hi, ← he]
    have e := nk_unique hn hi' h
    subst e
    rw [h] at hi
    rw [← Option.some.inj hi] <;> rfl
variable {d : Addr} {ys : List NkE} {k : NestedKey} {key v : Value}
theorem nk_dictGet {Q : Option Value → Shared → Prop} (hu : A.units + 8 < cLine) (hkey : NestedIs s.heap k key) (hkd : k.depth ≤ 8) (hkt : (∃ x t, key = .str x t) ∨ ∃ a, key = .ref a) (hm : DictN w s.heap d ys)
    (h : Q ((nkAt ys k).map (·.2)) { s with toks := s.toks + k.draws }) : wpAny (model prog w) A (dictGet d key) Q E s := by
  obtain ⟨o, es, ep, ho, _, hd, he, his, hn⟩ := hm
  unfold dictGet
  try with_reducible refine wpAny_holding ?_
  refine wpAny_bind (PySem.pyHash_key _ _ _ _ _ hkey (by omega) (wpAny_bind (nk_find (s := { s with toks := s.toks + k.draws }) hu hkey hkd hkt ho hd he his hn ?_ ?_)))
  · intro hno
    rw [nkAt_none hno] at h
    exact wpAny_pure h
  · intro j p hj
    rw [nkAt_some hn hj] at h
    refine wpAny_bind (wpAny_dictEntries (s := { s with toks := s.toks + k.draws }) ho hd ?_)
    rw [nk_entry_at he j, hj]
    exact wpAny_pure h
theorem nk_notIn {Q : Value → Shared → Prop} (hu : A.units + 9 < cLine) (hkey : NestedIs s.heap k key) (hkd : k.depth ≤ 8) (hkt : (∃ x t, key = .str x t) ∨ ∃ a, key = .ref a) (hds : (d == sysModules) = false) (hm : DictN w s.heap d ys)
    (h : Q (.bool (!(nkAt ys k).isSome)) { s with toks := s.toks + k.draws }) : wpAny (model prog w) A (compareOp .NotIn key (.ref d)) Q E s := by
  show wpAny _ _ (do return .bool (!(← contains (.ref d) key))) Q E s
  refine wpAny_bind ?_
  unfold contains
  try with_reducible refine wpAny_holding ?_
  refine wpAny_bind (wpAny_specialOf hm.typeIs slot_dict_contains.lookup ?_)
  show wpAny _ _ (if (some (Value.builtin "dict.__contains__") == some Value.none) = true then _ else _) _ E s
  rw [if_neg (by rw [beq_builtin_none]; exact Bool.false_ne_true)]
  refine wpAny_bind (wpAny_callSpecialUnlessNone?_slot (name := Str.ofString "__contains__") hm.typeIs slot_dict_contains
    (wpAny_call_entry slot_dict_contains hm.typeIs entry_dict_contains ?_ (args_dict_contains _ _)))
  show wpAny _ _ (dictGet d key >>= _) _ _ s
  refine wpAny_bind (nk_dictGet (by show A.units + 1 + 8 < cLine; omega) hkey hkd hkt hm ?_)
  cases hf : nkAt ys k with
  | some p =>
    rw [hf] at h
    show wpAny _ _ (ret (.bool true)) _ _ _
    exact wpAny_pure ⟨_, rfl, wpAny_truthy_bool (wpAny_pure h)⟩
  | none =>
    rw [hf] at h
    show wpAny _ _ (Builtin.Dict.pendingKey? d key >>= _) _ _ _
    exact wpAny_bind (wpAny_pendingKey_other hds (wpAny_pure ⟨_, rfl, wpAny_truthy_bool (wpAny_pure h)⟩))
theorem nk_getItem {p : Value × Value} {Q : Value → Shared → Prop} (hu : A.units + 9 < cLine) (hkey : NestedIs s.heap k key) (hkd : k.depth ≤ 8) (hkt : (∃ x t, key = .str x t) ∨ ∃ a, key = .ref a) (hm : DictN w s.heap d ys) (hp : nkAt ys k = some p)
    (h : Q p.2 { s with toks := s.toks + k.draws }) : wpAny (model prog w) A (getItem (.ref d) key) Q E s := by
  unfold getItem
  try with_reducible refine wpAny_holding ?_
  refine wpAny_bind (wpAny_sequenceKey hm.typeIs (by decide) ?_)
  refine wpAny_bind (wpAny_callSpecial?_slot (name := Str.ofString "__getitem__") hm.typeIs slot_dict_getitem
    (wpAny_call_entry slot_dict_getitem hm.typeIs entry_dict_getitem ?_ (args_dict_getitem _ _)))
  show wpAny _ _ (dictGet d key >>= _) _ _ s
  refine wpAny_bind (nk_dictGet (by show A.units + 1 + 8 < cLine; omega) hkey hkd hkt hm ?_)
  rw [hp]
  exact wpAny_pure ⟨p.2, rfl, wpAny_pure h⟩
/-- a new key is put -/
theorem nk_setItem {Q : Unit → Shared → Prop} (hu : A.units + 9 < cLine) (hkey : NestedIs s.heap k key) (hkd : k.depth ≤ 8) (hkt : (∃ x t, key = .str x t) ∨ ∃ a, key = .ref a) (hm : DictN w s.heap d ys) (hnew : ∀ (j : Nat) (p : Value × Value), ys[j]? ≠ some (k, p)) (hsz : ys.length ≤ sizeLine)
    (hQ : ∀ (h' : Heap) (o' : Obj) (es' : Array DictEntry) (ep' : Nat), h'.get? d = some o' → o'.ExactDict → o'.data = .dict es' ep' → es'.toList = (ys ++ [(k, key, v)]).map (nkEntry w) → Heap.SameBut d s.heap h' → Q () { s with heap := h', toks := s.toks + k.draws }) :
    wpAny (model prog w) A (setItem (.ref d) key v) Q E s := by
  have hT := hm.typeIs
  obtain ⟨o, es, ep, ho, hc, hd, he, his, hn⟩ := hm
  unfold setItem
  try with_reducible refine wpAny_holding ?_
  refine wpAny_bind (wpAny_sequenceKey hT (by decide) ?_)
  refine wpAny_bind (wpAny_callSpecial?_slot (name := Str.ofString "__setitem__") hT slot_dict_setitem
    (wpAny_call_entry slot_dict_setitem hT entry_dict_setitem ?_ (args_dict_setitem _ _ _)))
  show wpAny _ _ (Builtin.Dict.notOrdered "__setitem__" ⟨[.ref d, key, v], []⟩ >>= _) _ _ s
  refine wpAny_bind (wpAny_notOrdered_dict hT ?_)
  show wpAny _ _ (dictSet d key v >>= _) _ _ s
  refine wpAny_bind ?_
  unfold dictSet
  try with_reducible refine wpAny_holding ?_
  refine wpAny_bind (PySem.pyHash_key _ _ _ _ _ hkey (by show A.units + 1 + k.depth < cLine; omega) ?_)
  unfold dictSetHashed
  try with_reducible refine wpAny_holding ?_
  refine wpAny_bind (nk_find (s := { s with toks := s.toks + k.draws }) (by show A.units + 1 + 8 < cLine; omega) hkey hkd hkt ho hd he his hn ?_ ?_)
  · intro _
    refine wpAny_bind (wpAny_rule (wpAny_updateDictKeys (hz := by have e := nk_size he; omega) (s := { s with toks := s.toks + k.draws }) ho hd ?_))
    refine wpAny_pure ⟨.none, rfl, wpAny_pure ?_⟩
    refine hQ _ _ _ (ep + 1) (Heap.get?_update_self _ ho (Obj.isFreed_of_dict (Obj.data_mapDictKeys hd _))) (hc.mapDictKeys _) (Obj.data_mapDictKeys hd _) ?_ (Heap.SameBut.update ..)
    simp [he, nkEntry]
  · intro j p hj
    exact absurd hj (hnew j p)
end
/-! ### over the abstract heap -/
def MKv (H : Hp) : Option Nat → Value → Prop
  | none, kv => ∃ t, kv = .str "words" t
  | some n, kv => ∃ ka, kv = .ref ka ∧ H ka = some (.tup [.str "path", .int (n : Int)])
def MKey (H : Hp) : Option Nat → V → Prop
  | none, v => v = .str "words"
  | some n, v => ∃ ka, v = .ref ka ∧ H ka = some (.tup [.str "path", .int (n : Int)])
abbrev MX := List (Option Nat × Value × Addr)
structure MRaw (P : Program) (w : World) (H : Hp) (d : Addr) (es : Array DictEntry) (xs : MX) : Prop where
  at_ : H d = some (MemO d es)
  sm : (d == sysModules) = false
  es : es.toList = xs.map (mEntry P w)
  nd : (xs.map (·.1)).Nodup
  ks : ∀ x ∈ xs, MKv H x.1 x.2.1
theorem nk_inj {a b : Option Nat} (h : nk a = nk b) : a = b := by
  cases a with
  | none => cases b with
    | none => rfl
    | some m => cases h
  | some n => cases b with
    | none => cases h
    | some m =>
      have h1 : ([NestedKey.text "path", .num (n : Int)] : List NestedKey) = [.text "path", .num (m : Int)] := NestedKey.tup.inj h
      have h2 := (List.cons.inj (List.cons.inj h1).2).1
      have h3 := NestedKey.num.inj h2
      have : n = m := by omega
      rw [this]
theorem nk_depth (a : Option Nat) : (nk a).depth ≤ 8 := by
  cases a with
  | none => exact Nat.zero_le _
  | some n =>
    show NestedKey.depthAll [.text "path", .num (n : Int)] + 1 ≤ 8
    simp [NestedKey.depthAll, NestedKey.depth]
def mY (x : Option Nat × Value × Addr) : NkE := (nk x.1, x.2.1, .ref x.2.2)
section
variable {X : Cx} {pins : List (Addr × Obj)} {σ : L2.St} {H : Hp} {s : Shared} {d : Addr} {es : Array DictEntry} {xs : MX}
theorem key_tup {P : Program} {w : World} {h : Heap} {ka : Addr} {n : Nat} (ok : HOk P w H h) (e : H ka = some (.tup [.str "path", .int (n : Int)])) : NestedIs h (nk (some n)) (.ref ka) := by
  obtain ⟨_, its, r, o, h1, h2, m, h4⟩ := ok ka _ e
  cases r with
  | cons r1 r2 =>
    cases r2 with
    | cons r3 r4 =>
      cases r4
      obtain ⟨t1, rfl⟩ := r1
      obtain ⟨t2, rfl⟩ := r3
      exact .tup h1 h2 h4 (by simpa using NestedAll.cons (.text "path" t1) (.cons (.int (n : Int) t2) .nil))
theorem MKv.is {P : Program} {w : World} {h : Heap} {k : Option Nat} {kv : Value} (ok : HOk P w H h) (m : MKv H k kv) : NestedIs h (nk k) kv ∧ ((∃ x t, kv = .str x t) ∨ ∃ a, kv = .ref a) := by
  cases k with
  | none =>
    obtain ⟨t, rfl⟩ := m
    exact ⟨.text _ t, .inl ⟨_, t, rfl⟩⟩
  | some n =>
    obtain ⟨ka, rfl, e⟩ := m
    exact ⟨key_tup ok e, .inr ⟨ka, rfl⟩⟩
theorem MKey.kv {k : Option Nat} {y : V} {u : Value} (m : MKey H k y) (r : RelV y u) : MKv H k u := by
  cases k with
  | none =>
    have e : y = .str "words" := m
    subst e
    exact r
  | some n =>
    obtain ⟨ka, rfl, e⟩ := m
    exact ⟨ka, r, e⟩
theorem MRaw.dict {P : Program} {w : World} {h : Heap} (m : MRaw P w H d es xs) (ok : HOk P w H h) : DictN w h d (xs.map mY) := by
  obtain ⟨⟨o, ep, h1, h2, h3⟩, _, _⟩ := ok d _ m.at_
  refine ⟨o, es, ep, h1, h2, h3, ?_, fun y hy => ?_, ?_⟩
  · rw [m.es, List.map_map] <;> rfl
  · obtain ⟨x, hx, rfl⟩ := List.mem_map.mp hy
    exact ⟨((m.ks x hx).is ok).1, nk_depth _⟩
  · have e : (xs.map mY).map (·.1) = (xs.map (·.1)).map nk := by rw [List.map_map, List.map_map] <;> rfl
    rw [e]
    exact List.Pairwise.map nk (fun a b hab z => hab (nk_inj z)) m.nd

theorem find_none {k : Option Nat} (h : ∀ x ∈ xs, x.1 ≠ k) : ∀ (j : Nat) (p : Value × Value), (xs.map mY)[j]? ≠ some (nk k, p) := fun j p e => by
  obtain ⟨x, hx, ex⟩ := List.mem_map.mp (List.mem_of_getElem? e)
  have : nk x.1 = nk k := congrArg Prod.fst ex
  exact h x hx (nk_inj this)
theorem find_some {P : Program} {w : World} {h : Heap} {k : Option Nat} {kv : Value} {a : Addr} (m : MRaw P w H d es xs) (hx : (k, kv, a) ∈ xs) (D : DictN w h d (xs.map mY)) : nkAt (xs.map mY) (nk k) = some (kv, .ref a) := by
  obtain ⟨o, es, ep, ho, _, hd, he, his, hn⟩ := D
  obtain ⟨j, hj⟩ := List.mem_iff_getElem?.mp hx
  exact nkAt_some hn (j := j) (p := (kv, Value.ref a)) (by rw [List.getElem?_map, hj] <;> rfl)
end
section
variable {X : Cx} {o i value : Expr} {td ty tv : TE} {pos pos' : Pos}
/-- y not in d -/
def tMNotIn (P : Program) (w : World) (ty td : TE) : TE := fun σ H Q => ty σ H fun y H1 => td σ H1 fun x H2 => ∃ (d : Addr) (es : Array DictEntry) (xs : MX) (k : Option Nat), x = .ref d ∧ MRaw P w H2 d es xs ∧ MKey H2 k y ∧
  ((∀ x ∈ xs, x.1 ≠ k) → Q (.bl true) H2) ∧ ((∃ kv a, (k, kv, a) ∈ xs) → Q (.bl false) H2)
theorem pc_mnotin (hu : X.A.units + 9 < cLine) (hi : PE X i ty) (ho : PE X o td) : PC X .NotIn i o (tMNotIn X.prog X.w ty td) := by
  refine ⟨fun pins s σ H Q I h => ?_⟩
  refine thn (hi.run pins s σ H _ I h) fun iv s1 ⟨y, H1, I1, ry, q1⟩ => thn (ho.run pins s1 σ H1 _ I1 q1) fun u s2 ⟨x, H2, I2, rx, d, es, xs, k, ex, m, mk, q2, q3⟩ => ?_
  subst ex
  obtain rfl : u = Value.ref d := rx
  obtain ⟨k1, k2⟩ := (mk.kv ry).is I2.hok
  have D := m.dict I2.hok
  refine nk_notIn hu k1 (nk_depth k) k2 m.sm D ?_
  by_cases hk : ∀ x ∈ xs, x.1 ≠ k
  · rw [nkAt_none (find_none hk)]
    exact ⟨.bl true, H2, I2.tok _, rfl, q2 hk⟩
  · have ⟨x, hx, e⟩ : ∃ x ∈ xs, x.1 = k := Classical.byContradiction fun z => hk fun x hx e => z ⟨x, hx, e⟩
    obtain ⟨k0, kv, a⟩ := x
    have e' : k0 = k := e
    subst e'
    rw [find_some m hx D]
    exact ⟨.bl false, H2, I2.tok _, rfl, q3 ⟨kv, a, hx⟩⟩
/-- d[y] -/
def tMGet (P : Program) (w : World) (td ty : TE) : TE := fun σ H Q => td σ H fun x H1 => ty σ H1 fun y H2 => ∃ (d : Addr) (es : Array DictEntry) (xs : MX) (k : Option Nat) (kv : Value) (a : Addr), x = .ref d ∧ MRaw P w H2 d es xs ∧ MKey H2 k y ∧ (k, kv, a) ∈ xs ∧ Q (.ref a) H2
theorem pe_mget (hu : X.A.units + 9 < cLine) (ho : PE X o td) (hi : PE X i ty) (hs : NoSl i) : PE X (.Subscript o i pos) (tMGet X.prog X.w td ty) := by
  refine ⟨fun pins s σ H Q I h => ?_⟩
  refine subD_of PySem.F.slot_dict_getitem.lookup hs (thn (ho.run pins s σ H _ I h) fun u s1 ⟨x, H1, I1, rx, q1⟩ => thn (hi.run pins s1 σ H1 _ I1 q1) fun iv s2 ⟨y, H2, I2, ry, d, es, xs, k, kv, a, ex, m, mk, hx, q2⟩ => ?_)
  subst ex
  obtain rfl : u = Value.ref d := rx
  obtain ⟨k1, k2⟩ := (mk.kv ry).is I2.hok
  have D := m.dict I2.hok
  exact ⟨D.typeIs, nk_getItem hu k1 (nk_depth k) k2 D (find_some m hx D) ⟨.ref a, H2, I2.tok _, rfl, q2⟩⟩
/-- d[y] = a list, under a new key: the list is locked -/
def sMPut (P : Program) (w : World) (td ty tv : TE) : TS := fun D σ H => tv σ H fun v H1 => td σ H1 fun x H2 => ty σ H2 fun y H3 => ∃ (d : Addr) (es : Array DictEntry) (xs : MX) (k : Option Nat) (a : Addr) (ys : List V), x = .ref d ∧ v = .ref a ∧ MRaw P w H3 d es xs ∧ MKey H3 k y ∧
  (∀ x ∈ xs, x.1 ≠ k) ∧ H3 a = some (.lst ys) ∧ xs.length ≤ 5000 ∧ ∀ (od : Obj) (kv : Value) (es' : Array DictEntry), MKv H3 k kv → es'.toList = (xs ++ [(k, kv, a)]).map (mEntry P w) → D.nx σ (upd (upd H3 a (.frz od (.lst ys))) d (MemO d es'))
theorem ps_mput (hu : X.A.units + 9 < cLine) (ho : PE X o td) (hi : PE X i ty) (hv : PE X value tv) (hs : swapsWith value (some (.Subscript o i pos')) pos.line X.env = pure false) : PS X (.Assign [.Subscript o i pos'] value pos) (sMPut X.prog X.w td ty tv) := by
  refine ⟨fun pins s σ H D I h => ?_⟩
  refine wpAny_Assign_Subscript (thn (hv.run pins s σ H _ I h) fun r s1 ⟨v, H1, I1, rv, q1⟩ => thn (ho.run pins s1 σ H1 _ I1 q1) fun u s2 ⟨x, H2, I2, rx, q2⟩ => thn (hi.run pins s2 σ H2 _ I2 q2) fun iv s3 ⟨y, H3, I3, ry, d, es, xs, k, a, ys, ex, ev, m, mk, hn, hl, hz, q3⟩ => ?_) hs
  subst ex ev
  obtain rfl : u = Value.ref d := rx
  obtain rfl : r = Value.ref a := rv
  have kv := mk.kv ry
  obtain ⟨k1, k2⟩ := kv.is I3.hok
  have Dn := m.dict I3.hok
  refine nk_setItem hu k1 (nk_depth k) k2 Dn (find_none hn) (by rw [List.length_map, sizeLine_eq]; omega) fun h' o' es' ep' g1 g2 g3 g4 sb => ?_
  have nda : d ≠ a := ne_of m.at_ hl fun z => memO_ne (o := .lst ys) rfl z
  -- the dict is written, then the list is locked
  have mu : Mut (H3 d) := by
    rw [m.at_]
    unfold MemO
    exact True.intro
  have kp : ∀ b u, b ≠ d → s3.heap.get? b = some u → h'.get? b = some u := fun b u hb e => (sb.2 b hb).trans e
  have I4 : L2.Inv X pins σ (upd H3 d (MemO d es')) { s3 with heap := h', toks := s3.toks + (nk k).draws } := by
    refine I3.write (x := d) (e := d) mu (.inl rfl) kp ⟨o', g1⟩ ?_
    exact ⟨⟨o', ep', g1, g2, g3⟩, ⟨o', g1⟩, fun h1 h2 ⟨o, ep, a1, a2, a3⟩ st => ⟨o, ep, st _ a1, a2, a3⟩⟩
  have hl' : upd H3 d (MemO d es') a = some (.lst ys) := by rw [upd_ne nda.symm]; exact hl
  obtain ⟨od, I5⟩ := I4.lock hl' True.intro
  have e5 : upd (upd H3 d (MemO d es')) a (.frz od (.lst ys)) = upd (upd H3 a (.frz od (.lst ys))) d (MemO d es') := by
    funext b
    unfold upd
    by_cases hb : b = a
    · subst hb
      rw [if_pos rfl, if_neg nda.symm, if_pos rfl]
    · by_cases hb2 : b = d
      · subst hb2
        rw [if_neg hb, if_pos rfl, if_pos rfl]
      · rw [if_neg hb, if_neg hb2, if_neg hb2, if_neg hb]
  rw [e5] at I5
  exact ⟨σ, _, I5, q3 od iv es' kv (by rw [g4, List.map_append, List.map_append, List.map_map] <;> rfl)⟩
/-- {} that becomes a memory -/
def tMNew : TE := fun _ H Q => ∀ p, H p = none → (p == sysModules) = false → Q (.ref p) (upd H p (MemO p #[]))
theorem pe_dnewM : PE X (.Dict [] [] pos) tMNew := ⟨fun pins s σ H Q I h => by
  have e : (s.heap.push ({ cls := .type "dict", data := .dict #[] } : Obj)).get? s.heap.objs.size = some ({ cls := .type "dict", data := .dict #[] } : Obj) := Heap.get?_push_size _ rfl
  obtain ⟨_, hd, _⟩ := dk_empty (P := X.prog) (w := X.w) (H := upd H s.heap.objs.size (.dK [])) s.heap I.big
  exact wpAny_Dict_empty ⟨.ref s.heap.objs.size, _, I.laid (a := s.heap.objs.size) (o := MemO s.heap.objs.size #[]) (t' := s.toks) (fun _ _ q => Heap.get?_push_of_some _ q) (Nat.le_refl _) ⟨⟨_, _, e, ⟨rfl, rfl, rfl⟩, rfl⟩, ⟨_, e⟩, fun h1 h2 ⟨o, ep, a1, a2, a3⟩ st => ⟨o, ep, st _ a1, a2, a3⟩⟩, rfl, h _ (I.hok.fresh (Nat.le_refl _)) hd⟩⟩
end
end K95
set_option Elab.async false
set_option linter.all false
set_option maxRecDepth 100000
set_option maxHeartbeats 4000000
set_option autoImplicit false
/-! enumerate of a tuple -/
namespace PySem
open AutoSeq1 (wpAny_loadPart')
theorem k95_enumT (l : Addr) (items : Array Value) (o : Obj) :
    Meets (Builtin.«enumerate.__new__» ⟨[.type "enumerate", .ref l], []⟩) (fun _ R s => (s.heap.get? l = some o ∧ s.heap.IsTuple l items) ∧
      R (.ok (.ret (.ref (s.heap.push { cls := .type "tuple_iterator", data := .fields #[.ref l, .int 0 0] }).objs.size)))
        { s with heap := (s.heap.push { cls := .type "tuple_iterator", data := .fields #[.ref l, .int 0 0] }).push { cls := .type "enumerate", data := .fields #[.none, .bool false, .ref s.heap.objs.size, rawInt 0, .none, .none] } }) :=
  .of_wp fun prog w A R s h => by
    obtain ⟨hp, g, d, tk, os⟩ := s; obtain ⟨⟨hl, hL⟩, h⟩ := h
    have hsub := sub_enumerate
    wp_walk using wpAny_loadPart' hl
    refine wpAny_stack_any fun st => wpAny_pure ?_
    split
    · rename_i c _ _ _ _ _
      cases (c == Value.type "enumerate")
      · wp_walk using wpAny_loadPart' hl, wpAny_pyIter_tuple hL
        exact ⟨_, rfl, h⟩
      · wp_walk using wpAny_loadPart' hl, wpAny_pyIter_tuple hL
        exact ⟨_, rfl, h⟩
    · wp_walk using wpAny_loadPart' hl, wpAny_pyIter_tuple hL
      exact ⟨_, rfl, h⟩
theorem k95_call_enumT {prog : Program} {w : World} {A : Around} {E : Value → Shared → Prop} {s : Shared} {l : Addr} {items : Array Value} {Q : Value → Shared → Prop} (hL : s.heap.IsTuple l items)
    (h : ∀ h', IsEnum h' (s.heap.objs.size + 1) s.heap.objs.size 0 .none → h'.IsTupleIter s.heap.objs.size l 0 → h'.objs.size = s.heap.objs.size + 2 →
      (∀ b o, s.heap.get? b = some o → h'.get? b = some o) → Q (.ref (s.heap.objs.size + 1)) { s with heap := h' }) :
    wpAny (model prog w) A (call (.type "enumerate") [.ref l]) Q E s := by
  obtain ⟨o, hl, hc⟩ := id hL
  refine callType_new F.called_enumerate (by decide) (F.typeCall_enumerate_1 _) (F.newCall_enumerate_1 _) (fun obj => F.args_object_init_2 obj _) F.entry_enumerate_new
    (k95_enumT l items o) ⟨⟨hl, hL⟩, ?_⟩
  have hz : (s.heap.push { cls := .type "tuple_iterator", data := .fields #[.ref l, .int 0 0] }).objs.size = s.heap.objs.size + 1 := Heap.size_push ..
  show _ ∧ _
  rw [hz]
  have he : IsEnum ((s.heap.push { cls := .type "tuple_iterator", data := .fields #[.ref l, .int 0 0] }).push
      { cls := .type "enumerate", data := .fields #[.none, .bool false, .ref s.heap.objs.size, rawInt 0, .none, .none] }) (s.heap.objs.size + 1) s.heap.objs.size 0 .none := by
    have := Heap.get?_push_size (s.heap.push { cls := .type "tuple_iterator", data := .fields #[.ref l, .int 0 0] })
      (o := { cls := .type "enumerate", data := .fields #[.none, .bool false, .ref s.heap.objs.size, rawInt 0, .none, .none] }) rfl
    rw [hz] at this; exact this
  refine ⟨⟨_, he, rfl⟩, h _ he ⟨_, Heap.get?_push_of_some _ (Heap.get?_push_size _ rfl), rfl, rfl⟩ (by rw [Heap.size_push, hz]) fun b o x => Heap.get?_push_of_some _ (Heap.get?_push_of_some _ x)⟩
end PySem
namespace K95
open PySem PySem.Spec PyProof.Rows L2
/-- the tuple at a, each item with its number in a new pair -/
def IteT (K : PySem.W.Frag) (a : Addr) : It :=
  ⟨fun i H => ∃ (xs : List V) (x : V), SqT K H a xs ∧ xs[i]? = some x, fun i H v H' => ∃ T x, v = .ref T ∧ H T = none ∧ H' = upd H T (.tup [.int (i : Nat), x]) ∧ ∀ xs, SqT K H a xs → xs[i]? = some x, fun i H => ∃ xs, SqT K H a xs ∧ xs.length ≤ i⟩
theorem turn_enumT {P : Program} {w : World} {K : PySem.W.Frag} {elts : List Expr} {kk : Nat} {tpos : Pos} (a e it : Addr) :
    Turn P w K (.Tuple elts kk tpos) (IteT K a) [e, it] e (fun i h => (∃ old, IsEnum h e it ((i : Nat) : Int) old) ∧ h.IsTupleIter it a i ∧ e ≠ it ∧ e ≠ a ∧ a ≠ it) where
  mem := by simp
  obj := fun i h st b hb => by
    obtain ⟨⟨old, he⟩, ⟨o, ho, hc, hd⟩, _⟩ := st
    have e' : b = e ∨ b = it := by simpa using hb
    rcases e' with z | z
    · rw [z]; exact ⟨_, he, fun v q => nomatch q⟩
    · rw [z]; exact ⟨o, ho, fun v q => by rw [hd] at q; cases q⟩
  keep := fun i h h' st k => let ⟨⟨old, he⟩, hi, hne⟩ := st; ⟨⟨old, k e (by simp) _ he⟩, hi.at fun o q => k it (by simp) o q, hne⟩
  item := by
    intro X hP hw hK hc i pins s σ H E I hf st hg
    subst hP hw hK
    obtain ⟨⟨old, he⟩, hit, hne, hea, hai⟩ := st
    obtain ⟨xs, x, hq, hx⟩ := hg
    obtain ⟨its, rv, p, hz⟩ := I.tuple hq
    obtain ⟨u, hu, ru⟩ := rv.get hx
    have hel : e < s.heap.objs.size := Heap.lt_size he
    have hil : it < s.heap.objs.size := by obtain ⟨_, q, _⟩ := hit; exact Heap.lt_size q
    have hT0 : s.heap.IsTuple a its.toArray := p
    have hlt : i < its.toArray.size := by
      have := (List.getElem?_eq_some_iff.mp hu).1
      simpa using this
    refine wpAny_pyNext_enum_itemD (n := its.toArray.size) (Draws.tuple (w := X.w) (prog := X.prog) (show X.A.in1.handled = none from I.ok.hd hc) it a hai its.toArray) he ⟨hit, hT0⟩ hlt hne (by simp [hne, hea]) fun x' h' tk hP' ho hit' hT hsz hk => ?_
    obtain rfl : u = x' := by
      have h1 : its.toArray[i]? = some u := by simpa using hu
      rw [h1] at hP'
      exact Option.some.inj hP'
    refine ⟨_, rfl, wpAny_letOwnedTupleGo_enum (s := { s with heap := h', toks := tk + 1 }) ho fun h'' he' sb => ?_⟩
    have hT2 : h''.get? s.heap.objs.size = some { cls := .type "tuple", data := .seq #[.int i tk, u] } := (sb.2 _ (Nat.ne_of_gt hel)).trans hT
    have new : ObjOk X.prog X.w (upd H s.heap.objs.size (.tup [.int (i : Nat), x])) h'' s.heap.objs.size (.tup [.int (i : Nat), x]) :=
      ⟨by show 2 ≤ sizeLine; decide, [.int i tk, u], .cons ⟨_, rfl⟩ (.cons ru .nil), ⟨_, hT2, rfl, _, rfl⟩⟩
    have I1 : Inv X pins σ (upd H s.heap.objs.size (.tup [.int (i : Nat), x])) { s with heap := h'', toks := tk + 1 } :=
      I.turnedNew (ch := [e, it]) (fun b ob hb q => (sb.2 b (fun z => hb (by simp [z]))).trans (hk b ob (fun z => hb (by simp [z])) (fun z => hb (by simp [z])) q)) hf (Nat.le_refl _) new
    refine ⟨.ref s.heap.objs.size, _, I1, rfl, ⟨_, x, rfl, I.hok.fresh (Nat.le_refl _), rfl, fun ys hy => by rw [I.tuple_inj hy hq]; exact hx⟩, ⟨⟨u, ?_⟩, hit'.1.at fun o q => (sb.2 it (Ne.symm hne)).trans q, hne, hea, hai⟩, fun b hb => ?_⟩
    · have e1 : ((i + 1 : Nat) : Int) = (i : Int) + 1 := by omega
      rw [e1]; exact he'
    · have hb' : b < s.heap.objs.size := by
        have e' : b = e ∨ b = it := by simpa using hb
        rcases e' with z | z
        · rw [z]; exact hel
        · rw [z]; exact hil
      rw [upd_ne (Nat.ne_of_lt hb')]
      exact (hf b hb).1
  done := by
    intro X hP hw hK hc i pins s σ H E I hf st hg
    subst hP hw hK
    obtain ⟨⟨old, he⟩, hit, hne, hea, hai⟩ := st
    obtain ⟨xs, hq, hx⟩ := hg
    obtain ⟨its, rv, p, hz⟩ := I.tuple hq
    have hl := rv.length
    have hT0 : s.heap.IsTuple a its.toArray := p
    have hT := (⟨_, he, rfl⟩ : s.TypeIs (.ref e) "enumerate")
    obtain ⟨f0, f1, f2, f3⟩ := hf it (by simp)
    unfold pyNext
    refine wpAny_bind (wpAny_attempt (wpAny_callSpecial?_slot (name := Str.ofString "__next__") hT PySem.F.slot_enumerate_next
      (wpAny_call_entry PySem.F.slot_enumerate_next hT PySem.F.entry_enumerate_next ?_ (PySem.F.args_enumerate_next_1 _))))
    show wpAny _ _ (field (.ref e) 2 >>= _) _ _ _
    refine wpAny_bind (wpAny_field he rfl (x := .ref it) rfl ?_)
    refine wpAny_bind (wpAny_nextOf_tuple_end (show X.A.in1.handled = none from I.ok.hd hc) hit hT0 (by simp; omega) fun h' x he' hx' => ?_)
    obtain ⟨o, ho, hc'⟩ := hx'
    refine wpAny_bind (wpAny_isInstance (T := "StopIteration") (b := true) ⟨o, ho, hc'⟩ isSubtype_stop ?_)
    exact wpAny_pure ⟨rfl, I.turnedL (t' := s.toks) (ch := [e, it]) (fun c o hb q => he' c o (fun q' => hb (by simp [q'])) q) hf⟩
  self := fun A i s Q E st h => let ⟨⟨_, he⟩, _⟩ := st; wpAny_pyIter_enum he h
/-- enumerate of a list or of a tuple -/
def iEnumA (K : PySem.W.Frag) (ta : TA) : TI := fun σ H R => ta σ H fun vs H1 => ∃ a xs, vs = [.ref a] ∧ ((SqL K H1 a xs ∧ R (Ite K a) H1) ∨ (SqT K H1 a xs ∧ R (IteT K a) H1))
theorem pi_enumA {X : Cx} {e : Expr} {ta : TA} {p pos tpos : Pos} {elts : List Expr} {kk : Nat} (hg : Gl X "enumerate") (hm : X.mg "enumerate" = none) (ha : PA X [e] ta) (hs : starEach [e] X.env = [(false, eval e X.env)] := by rfl) :
    PI X (.Tuple elts kk tpos) (.Call (.Name "enumerate" p) [e] [] pos) (iEnumA X.K ta) := by
  refine ⟨fun pins s σ H R I h => ?_⟩
  refine Call_ (ld_blt I hg hm boot_enumerate (PyProof.Rows.callWith_type1 (thn (ha.run pos pins s σ H _ I h) fun us s1 ⟨vs, H1, I1, r1, q1⟩ => ?_) hs rfl))
  obtain ⟨a, xs, ex, q⟩ := q1
  subst ex
  cases r1 with
  | cons r rr =>
    cases rr
    cases r
    have fr : ∀ b, b ∈ [s1.heap.objs.size + 1, s1.heap.objs.size] → FpOk X pins H1 b := fun b hb => by
      have e' : b = s1.heap.objs.size + 1 ∨ b = s1.heap.objs.size := by simpa using hb
      have hle : s1.heap.objs.size ≤ b := by
        rcases e' with z | z
        · rw [z]; exact Nat.le_add_right _ _
        · rw [z]; exact Nat.le_refl _
      exact I1.fpOk hle (I1.hok.fresh hle)
    rcases q with ⟨hq, q⟩ | ⟨hq, q⟩
    · obtain ⟨its, rv, p', hz⟩ := I1.list hq
      refine call_enumerate_list p'.isList fun h' he hit hsz hk => wpAny_pyIter_enum he ?_
      have I2 : Inv X pins σ H1 { s1 with heap := h' } := I1.kept (t' := s1.toks) hk
      exact ⟨s1.heap.objs.size + 1, [s1.heap.objs.size + 1, s1.heap.objs.size], _, _, H1, rfl, I2, turn_enum a (s1.heap.objs.size + 1) s1.heap.objs.size, ⟨⟨.none, he⟩, hit, Nat.succ_ne_self _⟩, fr, q⟩
    · obtain ⟨its, rv, p', hz⟩ := I1.tuple hq
      obtain ⟨o1, ho1, _⟩ := id p'
      have hlt := Heap.lt_size ho1
      refine k95_call_enumT (show s1.heap.IsTuple a its.toArray from p') fun h' he hit hsz hk => wpAny_pyIter_enum he ?_
      have I2 : Inv X pins σ H1 { s1 with heap := h' } := I1.kept (t' := s1.toks) hk
      exact ⟨s1.heap.objs.size + 1, [s1.heap.objs.size + 1, s1.heap.objs.size], _, _, H1, rfl, I2, turn_enumT a (s1.heap.objs.size + 1) s1.heap.objs.size, ⟨⟨.none, he⟩, hit, Nat.succ_ne_self _, Nat.ne_of_gt (Nat.lt_succ_of_lt hlt), Nat.ne_of_lt hlt⟩, fr, q⟩
theorem walk_enumT {K : PySem.W.Frag} {a : Addr} {xs : List V} : Walk (IteT K a) xs.length (fun H => SqT K H a xs) (YPair (fun i => some (.int (i : Nat))) (fun i => xs[i]?)) := by
  refine ⟨fun i _ hi q => ⟨xs, xs[i], q, by simp [hi]⟩, fun _ q => ⟨xs, q, Nat.le_refl _⟩, fun i H v H' _ q y => ?_⟩
  obtain ⟨T, x, h1, h2, h3, h4⟩ := y
  exact ⟨T, .int (i : Nat), x, h1, h2, h3, rfl, h4 xs q⟩
end K95
set_option Elab.async false
set_option linter.all false
set_option maxRecDepth 100000
set_option maxHeartbeats 4000000
set_option autoImplicit false
/-! {k: v}, k a number, a text or a tuple of such -/
namespace PySem
open Sem (wp)
section
variable {prog : Program} {w : World} {A : Around} {E : Value → Shared → Prop} {s : Shared}
theorem k95_Dict {env : Env} {keys : List (Option Expr)} {values : List Expr} {pos : Pos} {pairs : List (Sem Value × Sem Value)} {Q : Value → Shared → Prop}
    (hshape : (evalEachOpt keys env).zip ((evalEach values env).map fun v => do let x ← v; standAt pos; pure x) = pairs.map fun p => (some p.1, p.2)) (h0 : pairs ≠ []) (hlen : pairs.length ≤ 15)
    (h : wpAny (model prog w) A (evalPairs pairs) (fun vs s₁ => wpAny (model prog w) A (forIn vs PUnit.unit fun (x : Value × Value) (_ : PUnit) => (do dictSet s.heap.objs.size x.1 x.2; pure (ForInStep.yield PUnit.unit) : Sem (ForInStep PUnit))) (fun _ s₂ => Q (.ref s.heap.objs.size) s₂) E s₁) E
      { s with heap := s.heap.push { cls := .type "dict", data := .dict #[] } }) :
    wpAny (model prog w) A (eval (.Dict keys values pos) env) Q E s := by
  rw [arm_eval_Dict, hshape, dictDisplay_pairs pairs h0 (by omega)]
  refine wpAny_bind (wpAny_standAt (wpAny_bind ?_))
  unfold subDict
  refine wpAny_bind (wpAny_alloc ?_)
  refine wpAny_bind (wpAny_holding ?_)
  rw [if_pos hlen]
  refine wpAny_bind (wpAny_mono h (fun vs s₁ h₁ => ?_) fun _ _ e => e)
  refine wpAny_holding ?_
  exact wpAny_bind (wpAny_mono h₁ (fun _ s₂ h₂ => wpAny_pure (wpAny_pure (wpAny_pure h₂))) fun _ _ e => e)
end
end PySem
namespace K95
open PySem PySem.Spec PyProof.Rows L2
def tDisp1 (tk tv : TE) : TE := fun σ H Q => ∀ p, H p = none → tk σ (upd H p (.dK [])) fun k H1 => tv σ H1 fun v H2 => H2 p = some (.dK []) ∧
  ∃ o : HO, ((∃ key, k = kV key ∧ o = .dK [(key, v)]) ∨ ∃ ks b, k = .ref b ∧ H2 b = some (.tup (ks.map kV)) ∧ o = .dT [(ks, v)]) ∧ Q (.ref p) (upd H2 p o)
theorem pe_disp1 {X : Cx} {pos : Pos} {k v : Expr} {tk tv : TE} (hu : X.A.units + 1 < cLine) (hk : PE X k tk) (hv : PE X v tv) : PE X (.Dict [some k] [v] pos) (tDisp1 tk tv) := by
  refine ⟨fun pins s σ H Q I q => ?_⟩
  have hn := I.hok.fresh (Nat.le_refl s.heap.objs.size)
  have I1 := I.laid (a := s.heap.objs.size) (o := .dK []) (h' := s.heap.push { cls := .type "dict", data := .dict #[] }) (t' := s.toks) (fun _ _ q => Heap.get?_push_of_some _ q) (Nat.le_refl _) (dk_empty s.heap I.big)
  refine k95_Dict (zip_pairTrees [some k] [v] X.env pos rfl rfl) (by intro z; have := congrArg List.length z; rw [pairTrees_length [some k] [v] X.env pos rfl rfl] at this; simp at this) (by rw [pairTrees_length [some k] [v] X.env pos rfl rfl]; show 1 ≤ 15; decide) ?_
  refine pairTrees_cons_walk (thn (hk.run pins _ σ _ _ I1 (q _ hn)) fun u s1 ⟨x, H1, I1', rx, q1⟩ => thn (hv.run pins s1 σ H1 _ I1' q1) fun uv s2 ⟨y, H2, I2, ry, hp, ho, q3, q2⟩ => pairTrees_nil_walk ?_)
  obtain ⟨z, hd, vs0, r0, dd⟩ := dk_of I2.hok hp
  cases r0
  rcases q3 with ⟨key, rfl, rfl⟩ | ⟨ks, b, rfl, hb, rfl⟩
  · refine wpAny_storeAll (knd := mixKind X.prog X.w) [(u, uv)] [(key, uv)] [] s2 _ ⟨kV_is rx, rfl, trivial⟩ dd (by simp [sizeLine_eq]) fun h' dd' hs => ?_
    have he : ∃ q, h'.get? s.heap.objs.size = some q := let ⟨q, _, _, hq, _⟩ := dd'; ⟨q, hq⟩
    exact ⟨.ref s.heap.objs.size, _, d_write I2 (by rw [hp]; exact True.intro) hs he (dk_new (kvs := [(key, y)]) (by simp [sizeLine_eq]) hd (.cons ⟨rfl, ry⟩ .nil) dd'), rfl, q2⟩
  · cases (show u = Value.ref b from rx)
    have ddH : s2.heap.DictOfH (tupleKind (mixKind X.prog X.w)) s.heap.objs.size [] := by
      obtain ⟨o, es, ep, h1, h2, h3, h4, h5, h6⟩ := dd
      have e0 : es.toList = [] := by
        generalize es.toList = l at h5
        cases l with
        | nil => rfl
        | cons a b => cases h5
      exact ⟨o, es, ep, h1, h2, h3, by rw [e0]; rfl, (fun x hx => absurd hx List.not_mem_nil), List.nodup_nil⟩
    refine wpAny_storeAllH (knd := tupleKind (mixKind X.prog X.w)) (show X.A.units < cLine by omega) [(.ref b, uv)] [(ks, b, uv)] [] s2 _ ⟨rfl, rfl, key_of I2.hok hb, trivial⟩ ddH (by simp [sizeLine_eq]) fun h' tk dd' hs => ?_
    obtain ⟨q, es, ep, hq, h2, h3, h4, _, h5⟩ := dd'
    refine ⟨.ref s.heap.objs.size, _, d_write I2 (by rw [hp]; exact True.intro) hs ⟨q, hq⟩ (ob := .dT [(ks, y)]) ⟨by simp [sizeLine_eq], hd, _, .cons ⟨rfl, ?_, ry⟩ .nil, q, es, ep, hq, h2, h3, h4, h5⟩, rfl, q2⟩
    rw [upd_ne (ne_of hb hp (fun z => nomatch z))]
    exact hb
end K95
set_option Elab.async false
set_option linter.all false
set_option maxRecDepth 100000
set_option maxHeartbeats 4000000
set_option autoImplicit false
/-! list(zip(xs, ys)), two lists of one length -/
namespace K95
open PySem PySem.Spec PyProof.Rows L2
/-- a zip whose first tuple is still held -/
abbrev IsZipB (h : Heap) (z TI TO T : Addr) (b : Bool) : Prop :=
  h.get? z = some { cls := .type "zip", dict := none, data := .fields #[rawInt T, .bool b, .bool false, .ref TI, .ref TO], slots := #[] }
section
variable {prog : Program} {w : World} {A : Around} {E : Value → Shared → Prop} {s : Shared}
theorem wpAny_ifAlive {M : Model} {a : Addr} {o : Obj} {Q : Option Obj → Shared → Prop} (ho : s.heap.get? a = some o) (h : Q (some o) s) : wpAny M A (loadIfAlive a) Q E s := fun Γ p _ => by
  show Sem.wp _ _ (.loadIfAlive a .pure) _ _ _ _
  rw [Sem.wp_loadIfAlive, ho]
  exact h
theorem owned_busy {z TI TO T : Addr} {b : Bool} {oT : Obj} {Q : Bool → Shared → Prop} (hz : IsZipB s.heap z TI TO T b) (hT : s.heap.get? T = some oT)
    (hQ : ∀ h', IsZipB h' z TI TO T true → Heap.SameBut z s.heap h' → Q false { s with heap := h' }) : wpAny (model prog w) A (Builtin.SmallTypes.ownedTupleIsFree (.ref z)) Q E s := by
  unfold Builtin.SmallTypes.ownedTupleIsFree
  refine wpAny_bind (wpAny_field hz rfl (x := rawInt T) rfl ?_)
  show wpAny _ _ (loadIfAlive ((T : Int).toNat) >>= _) _ _ _
  rw [Int.toNat_natCast]
  refine wpAny_bind (wpAny_ifAlive hT ?_)
  show wpAny _ _ (field (.ref z) 1 >>= _) _ _ _
  refine wpAny_bind (wpAny_field hz rfl (x := .bool b) rfl ?_)
  cases b with
  | true => exact wpAny_pure (hQ s.heap hz (.refl ..))
  | false =>
    show wpAny _ _ (setField (.ref z) 1 (.bool true) >>= _) _ _ _
    refine wpAny_bind (wpAny_setField_rec hz (by simp) fun h₁ hz₁ hs₁ => wpAny_pure (hQ h₁ hz₁ hs₁))
theorem zip_next_item2 {z TI TO i1 i2 l1 l2 T : Addr} {k1 k2 : Nat} {bb : Bool} {oT : Obj} {xs ys : Array Value} {x y : Value} {Q : Value → Shared → Prop} (D : ZipApart z TI TO i1 i2 l1 l2)
    (hz : IsZipB s.heap z TI TO T bb) (hT : s.heap.get? T = some oT) (hTI : IsPair s.heap TI (.ref i1) (.ref i2))
    (h1 : s.heap.IsListIter i1 l1 k1) (h2 : s.heap.IsListIter i2 l2 k2) (hl1 : s.heap.IsList l1 xs) (hl2 : s.heap.IsList l2 ys) (hx : xs[k1]? = some x) (hy : ys[k2]? = some y)
    (hQ : ∀ h', IsZipB h' z TI TO T true → h'.IsListIter i1 l1 (k1 + 1) → h'.IsListIter i2 l2 (k2 + 1) → IsPair h' s.heap.objs.size x y → h'.objs.size = s.heap.objs.size + 1 →
      (∀ c o, c ≠ z → c ≠ i1 → c ≠ i2 → s.heap.get? c = some o → h'.get? c = some o) → Q (.ref s.heap.objs.size) { s with heap := h' }) :
    wpAny (model prog w) A (Builtin.«zip.__next__» ⟨[.ref z], []⟩) (fun fin s' => ∃ v, fin = .done (.ret v) ∧ Q v s') E s := by
  show wpAny _ _ (field (.ref z) 2 >>= _) _ _ _
  refine wpAny_bind (wpAny_field hz rfl (x := .bool false) rfl ?_)
  show wpAny _ _ (field (.ref z) 3 >>= _) _ _ _
  refine wpAny_bind (wpAny_field hz rfl (x := .ref TI) rfl ?_)
  refine wpAny_bind (wpAny_seqItems hTI rfl ?_)
  show wpAny _ _ (Builtin.SmallTypes.ownedTupleIsFree (.ref z) >>= _) _ _ _
  refine wpAny_bind (owned_busy hz hT fun h₁ hz₁ hs₁ => ?_)
  simp only [Bool.false_eq_true, if_false]
  refine wpAny_bind ?_
  rw [show (#[Value.ref i1, Value.ref i2] : Array Value) = [Value.ref i1, Value.ref i2].toArray from rfl, List.forIn_toArray]
  simp only [List.forIn_cons, List.forIn_nil]
  refine wpAny_bind (wpAny_bind (wpAny_holding ?_))
  show wpAny _ _ (Builtin.SmallTypes.nextOf (.ref i1) >>= _) _ _ _
  refine wpAny_bind (wpAny_nextOf_list_item (h1.extBut hs₁.extBut D.i1z) (hl1.extBut hs₁.extBut D.l1z) hx fun h₂ h1₂ hs₂ => wpAny_pure ?_)
  refine wpAny_pure ?_
  refine wpAny_bind (wpAny_bind (wpAny_holding ?_))
  show wpAny _ _ (Builtin.SmallTypes.nextOf (.ref i2) >>= _) _ _ _
  refine wpAny_bind (wpAny_nextOf_list_item ((h2.extBut hs₁.extBut D.i2z).extBut hs₂.extBut D.i12.symm) ((hl2.extBut hs₁.extBut D.l2z).extBut hs₂.extBut D.l2i1) hy fun h₃ h2₃ hs₃ => wpAny_pure ?_)
  refine wpAny_pure (wpAny_pure ?_)
  show wpAny _ _ (newTuple [x, y] >>= _) _ _ _
  refine wpAny_bind (wpAny_newTuple ?_)
  have hsz : h₃.objs.size = s.heap.objs.size := by rw [hs₃.1, hs₂.1, hs₁.1]
  have up : ∀ c o, c ≠ i1 → c ≠ i2 → h₁.get? c = some o → (h₃.push { cls := .type "tuple", data := .seq #[x, y] }).get? c = some o := fun c o c1 c2 e =>
    Heap.get?_push_of_some _ (hs₃.extBut _ _ c2 (hs₂.extBut _ _ c1 e))
  have hT' : IsPair (h₃.push { cls := .type "tuple", data := .seq #[x, y] }) h₃.objs.size x y := Heap.get?_push_size _ rfl
  have h1₃ : (h₃.push { cls := .type "tuple", data := .seq #[x, y] }).IsListIter i1 l1 (k1 + 1) := (h1₂.extBut hs₃.extBut D.i12).at fun o e => Heap.get?_push_of_some _ e
  have h2₃' : (h₃.push { cls := .type "tuple", data := .seq #[x, y] }).IsListIter i2 l2 (k2 + 1) := h2₃.at fun o e => Heap.get?_push_of_some _ e
  show wpAny _ _ (ret (.ref h₃.objs.size)) _ _ _
  rw [hsz] at hT' ⊢
  refine wpAny_pure ⟨_, rfl, hQ _ (up _ _ D.i1z.symm D.i2z.symm hz₁) h1₃ h2₃' hT' (by rw [Heap.size_push, hsz]) fun c o c1 c2 c3 e => up c o c2 c3 (hs₁.extBut _ _ c1 e)⟩
theorem zip_next_end2 {z TI TO i1 i2 l1 l2 T : Addr} {k1 : Nat} {bb : Bool} {oT : Obj} {xs : Array Value} {Q : Fin → Shared → Prop} (hh : A.handled = none) (D : ZipApart z TI TO i1 i2 l1 l2)
    (hz : IsZipB s.heap z TI TO T bb) (hT : s.heap.get? T = some oT) (hTI : IsPair s.heap TI (.ref i1) (.ref i2))
    (h1 : s.heap.IsListIter i1 l1 k1) (hl1 : s.heap.IsList l1 xs) (hx : xs[k1]? = none)
    (hE : ∀ h' e, (∀ c o, c ≠ z → c ≠ i1 → s.heap.get? c = some o → h'.get? c = some o) → (∃ o, h'.get? e = some o ∧ o.cls = .type "StopIteration") → E (.ref e) { s with heap := h' }) :
    wpAny (model prog w) A (Builtin.«zip.__next__» ⟨[.ref z], []⟩) Q E s := by
  show wpAny _ _ (field (.ref z) 2 >>= _) _ _ _
  refine wpAny_bind (wpAny_field hz rfl (x := .bool false) rfl ?_)
  show wpAny _ _ (field (.ref z) 3 >>= _) _ _ _
  refine wpAny_bind (wpAny_field hz rfl (x := .ref TI) rfl ?_)
  refine wpAny_bind (wpAny_seqItems hTI rfl ?_)
  show wpAny _ _ (Builtin.SmallTypes.ownedTupleIsFree (.ref z) >>= _) _ _ _
  refine wpAny_bind (owned_busy hz hT fun h₁ hz₁ hs₁ => ?_)
  simp only [Bool.false_eq_true, if_false]
  refine wpAny_bind ?_
  rw [show (#[Value.ref i1, Value.ref i2] : Array Value) = [Value.ref i1, Value.ref i2].toArray from rfl, List.forIn_toArray]
  simp only [List.forIn_cons, List.forIn_nil]
  refine wpAny_bind (wpAny_bind (wpAny_holding ?_))
  show wpAny _ _ (Builtin.SmallTypes.nextOf (.ref i1) >>= _) _ _ _
  refine wpAny_bind (wpAny_nextOf_list_end hh (h1.extBut hs₁.extBut D.i1z) (hl1.extBut hs₁.extBut D.l1z) hx fun h₂ e hs₂ he => ?_)
  exact hE h₂ e (fun c o c1 c3 x => hs₂ _ _ c3 (hs₁.extBut _ _ c1 x)) he
/-- a zip at work: i pairs are out, they stand at ts -/
structure ZS (z TI TO i1 i2 l1 l2 : Addr) (xs ys : Array Value) (h : Heap) (i : Nat) (ts : List Addr) : Prop where
  zip : (ts = [] ∧ IsZip h z TI TO .none) ∨ ∃ T b, ts[0]? = some T ∧ IsZipB h z TI TO T b
  ti : IsPair h TI (.ref i1) (.ref i2)
  to : ∃ a b, IsPair h TO a b
  it1 : h.IsListIter i1 l1 i
  it2 : h.IsListIter i2 l2 i
  l1 : h.IsList l1 xs
  l2 : h.IsList l2 ys
  len : ts.length = i
  tup : ∀ (j : Nat) t, ts[j]? = some t → ∃ x y, xs[j]? = some x ∧ ys[j]? = some y ∧ IsPair h t x y
  nd : ts.Nodup
  apart : ∀ t ∈ ts, t ≠ z ∧ t ≠ TO ∧ t ≠ i1 ∧ t ≠ i2
theorem ZS.frame {z TI TO i1 i2 l1 l2 : Addr} {xs ys : Array Value} {h h' : Heap} {i : Nat} {ts : List Addr} {S : Addr} (Z : ZS z TI TO i1 i2 l1 l2 xs ys h i ts) (hk : ∀ b o, b ≠ S → h.get? b = some o → h'.get? b = some o) (hS : S ∉ [z, TI, TO, i1, i2, l1, l2]) (hSt : S ∉ ts) : ZS z TI TO i1 i2 l1 l2 xs ys h' i ts := by
  simp at hS
  obtain ⟨s1, s2, s3, s4, s5, s6, s7⟩ := hS
  obtain ⟨a, b, hto⟩ := Z.to
  refine ⟨?_, hk _ _ (Ne.symm s2) Z.ti, ⟨a, b, hk _ _ (Ne.symm s3) hto⟩, Z.it1.at fun o e => hk _ _ (Ne.symm s4) e, Z.it2.at fun o e => hk _ _ (Ne.symm s5) e, Z.l1.at fun o e => hk _ _ (Ne.symm s6) e, Z.l2.at fun o e => hk _ _ (Ne.symm s7) e, Z.len, fun j t ht => ?_, Z.nd, Z.apart⟩
  · rcases Z.zip with ⟨e, h⟩ | ⟨T, b, e, h⟩
    · exact .inl ⟨e, hk _ _ (Ne.symm s1) h⟩
    · exact .inr ⟨T, b, e, hk _ _ (Ne.symm s1) h⟩
  · obtain ⟨x, y, e1, e2, e3⟩ := Z.tup j t ht
    exact ⟨x, y, e1, e2, hk _ _ (fun z => by subst z; exact hSt (List.mem_of_getElem? ht)) e3⟩
theorem ZS.next {z TI TO i1 i2 l1 l2 : Addr} {xs ys : Array Value} {i : Nat} {ts : List Addr} {x y : Value} {Q : Option Value → Shared → Prop} (D : ZipApart z TI TO i1 i2 l1 l2) (Z : ZS z TI TO i1 i2 l1 l2 xs ys s.heap i ts) (hx : xs[i]? = some x) (hy : ys[i]? = some y)
    (hQ : ∀ h', ZS z TI TO i1 i2 l1 l2 xs ys h' (i + 1) (ts ++ [s.heap.objs.size]) → h'.objs.size = s.heap.objs.size + 1 → (∀ c o, c ∉ [z, TO, i1, i2] → s.heap.get? c = some o → h'.get? c = some o) → Q (some (.ref s.heap.objs.size)) { s with heap := h' }) :
    wpAny (model prog w) A (pyNext (.ref z)) Q E s := by
  obtain ⟨a, b, hto⟩ := Z.to
  have hzl : z < s.heap.objs.size := by
    rcases Z.zip with ⟨_, h⟩ | ⟨_, _, _, h⟩ <;> exact Heap.lt_size h
  have hTOl := Heap.lt_size hto
  have hi1l : i1 < s.heap.objs.size := by obtain ⟨_, e, _⟩ := Z.it1; exact Heap.lt_size e
  have hi2l : i2 < s.heap.objs.size := by obtain ⟨_, e, _⟩ := Z.it2; exact Heap.lt_size e
  have htl : ∀ t ∈ ts, t < s.heap.objs.size := fun t ht => by
    obtain ⟨j, hj⟩ := List.mem_iff_getElem?.mp ht
    obtain ⟨_, _, _, _, h⟩ := Z.tup j t hj
    exact Heap.lt_size h
  have made : ∀ h', ((ts ++ [s.heap.objs.size] = [] ∧ IsZip h' z TI TO .none) ∨ ∃ T b, (ts ++ [s.heap.objs.size])[0]? = some T ∧ IsZipB h' z TI TO T b) → (∃ a b, IsPair h' TO a b) → h'.IsListIter i1 l1 (i + 1) → h'.IsListIter i2 l2 (i + 1) → IsPair h' s.heap.objs.size x y →
      (∀ c o, c ∉ [z, TO, i1, i2] → s.heap.get? c = some o → h'.get? c = some o) → ZS z TI TO i1 i2 l1 l2 xs ys h' (i + 1) (ts ++ [s.heap.objs.size]) := fun h' g0 g1 g2 g3 g4 hk => by
    refine ⟨g0, hk _ _ (by simp [D.TIz, D.TITO, D.TIi1, D.TIi2]) Z.ti, g1, g2, g3, Z.l1.at fun o e => hk _ _ (by simp [D.l1z, D.l1TO, D.l1i1, D.l1i2]) e, Z.l2.at fun o e => hk _ _ (by simp [D.l2z, D.l2TO, D.l2i1, D.l2i2]) e, by simp [Z.len], fun j t ht => ?_, ?_, fun t ht => ?_⟩
    · by_cases hj : j < ts.length
      · rw [List.getElem?_append_left hj] at ht
        obtain ⟨x', y', e1, e2, e3⟩ := Z.tup j t ht
        obtain ⟨a1, a2, a3, a4⟩ := Z.apart t (List.mem_of_getElem? ht)
        exact ⟨x', y', e1, e2, hk _ _ (by simp [a1, a2, a3, a4]) e3⟩
      · rw [List.getElem?_append_right (by omega)] at ht
        have e0 : j - ts.length = 0 := by
          have := (List.getElem?_eq_some_iff.mp ht).1
          simp at this
          omega
        rw [e0] at ht
        simp at ht
        subst ht
        have ej : j = i := by have := Z.len; omega
        subst ej
        exact ⟨x, y, hx, hy, g4⟩
    · rw [List.nodup_append]
      refine ⟨Z.nd, by simp, fun u hu v hv e => ?_⟩
      exact absurd (e.trans (List.mem_singleton.mp hv)) (Nat.ne_of_lt (htl u hu))
    · rcases List.mem_append.mp ht with h | h
      · exact Z.apart t h
      · rw [List.mem_singleton.mp h]
        exact ⟨Nat.ne_of_gt hzl, Nat.ne_of_gt hTOl, Nat.ne_of_gt hi1l, Nat.ne_of_gt hi2l⟩
  rcases Z.zip with ⟨e, hz⟩ | ⟨T, b', e, hz⟩
  · subst e
    exact wpAny_pyNext_zip_item D hz Z.ti hto Z.it1 Z.it2 Z.l1 Z.l2 hx hy fun h' a1 a2 a3 a4 a5 a6 a7 => hQ h' (made h' (.inr ⟨_, false, rfl, a1⟩) ⟨_, _, a2⟩ a3 a4 a5 fun c o hc e => by
      simp at hc
      exact a7 c o hc.1 hc.2.1 hc.2.2.1 hc.2.2.2 e) a6 fun c o hc e => by
      simp at hc
      exact a7 c o hc.1 hc.2.1 hc.2.2.1 hc.2.2.2 e
  · have hT : s.TypeIs (.ref z) "zip" := ⟨_, hz, rfl⟩
    obtain ⟨_, _, _, _, hTT⟩ := Z.tup 0 T e
    unfold pyNext
    refine wpAny_bind (wpAny_attempt (wpAny_callSpecial?_slot (name := Str.ofString "__next__") hT F.slot_zip_next
      (wpAny_call_entry F.slot_zip_next hT F.entry_zip_next
        (zip_next_item2 D hz hTT Z.ti Z.it1 Z.it2 Z.l1 Z.l2 hx hy fun h' a1 a3 a4 a5 a6 a7 => wpAny_pure (hQ h' (made h' (.inr ⟨T, true, ?_, a1⟩) ⟨a, b, a7 _ _ D.TOz D.TOi1 D.TOi2 hto⟩ a3 a4 a5 fun c o hc e => ?_) a6 fun c o hc e => ?_)) (F.args_zip_next_1 _))))
    · rw [List.getElem?_append_left (List.getElem?_eq_some_iff.mp e).1]
      exact e
    · simp at hc
      exact a7 c o hc.1 hc.2.2.1 hc.2.2.2 e
    · simp at hc
      exact a7 c o hc.1 hc.2.2.1 hc.2.2.2 e
theorem ZS.done {z TI TO i1 i2 l1 l2 : Addr} {xs ys : Array Value} {i : Nat} {ts : List Addr} {Q : Option Value → Shared → Prop} (hh : A.handled = none) (D : ZipApart z TI TO i1 i2 l1 l2) (Z : ZS z TI TO i1 i2 l1 l2 xs ys s.heap i ts) (hx : xs[i]? = none)
    (hQ : ∀ h', (∀ c o, c ∉ [z, TO, i1, i2] → s.heap.get? c = some o → h'.get? c = some o) → Q none { s with heap := h' }) : wpAny (model prog w) A (pyNext (.ref z)) Q E s := by
  obtain ⟨a, b, hto⟩ := Z.to
  rcases Z.zip with ⟨e, hz⟩ | ⟨T, b', e, hz⟩
  · exact wpAny_pyNext_zip_end hh D hz Z.ti hto Z.it1 Z.it2 Z.l1 Z.l2 (.inl hx) fun h' a7 => hQ h' fun c o hc e => by
      simp at hc
      exact a7 c o hc.1 hc.2.1 hc.2.2.1 hc.2.2.2 e
  · have hT : s.TypeIs (.ref z) "zip" := ⟨_, hz, rfl⟩
    obtain ⟨_, _, _, _, hTT⟩ := Z.tup 0 T e
    unfold pyNext
    refine wpAny_bind (wpAny_attempt (wpAny_callSpecial?_slot (name := Str.ofString "__next__") hT F.slot_zip_next
      (wpAny_call_entry F.slot_zip_next hT F.entry_zip_next (zip_next_end2 hh D hz hTT Z.ti Z.it1 Z.l1 hx fun h' e hk he => ?_) (F.args_zip_next_1 _))))
    obtain ⟨o, ho, hc⟩ := he
    refine wpAny_bind (wpAny_isInstance (T := "StopIteration") (b := true) ⟨o, ho, hc⟩ isSubtype_stop ?_)
    refine wpAny_pure (hQ _ fun c o hc e => ?_)
    simp at hc
    exact hk c o hc.1 hc.2.2.1 e
/-- list.extend's loop over it -/
theorem zip_loop {z TI TO i1 i2 l1 l2 S : Addr} {xs ys : Array Value} {res : Value} {R : Result → Shared → Prop} (hh : A.handled = none) (D : ZipApart z TI TO i1 i2 l1 l2) (hxy : xs.size = ys.size) (hn : xs.size ≤ sizeLine) (hS7 : S ∉ [z, TI, TO, i1, i2, l1, l2]) :
    ∀ (k i : Nat) (s : Shared) (acc : Array Value) (c : Nat) (ts : List Addr), xs.size - i = k → i ≤ xs.size → ZS z TI TO i1 i2 l1 l2 xs ys s.heap i ts → s.heap.get? S = some { cls := .type "list", dict := none, data := .seq acc c, slots := #[] } → acc.toList = ts.map Value.ref → S ∉ ts →
      (∀ (h' : Heap) (c' : Nat) (ts' : List Addr), ts'.length = xs.size → ts'.Nodup → S ∉ ts' → (∀ t ∈ ts', t ∈ ts ∨ s.heap.objs.size ≤ t) → (∀ (j : Nat) t, ts'[j]? = some t → ∃ x y, xs[j]? = some x ∧ ys[j]? = some y ∧ IsPair h' t x y) →
        h'.get? S = some { cls := .type "list", dict := none, data := .seq (ts'.map Value.ref).toArray c', slots := #[] } → (∀ b o, b ∉ [S, z, TO, i1, i2] → s.heap.get? b = some o → h'.get? b = some o) → R (.ok (.ret res)) { s with heap := h' }) →
      codeAny (model prog w) A (.builtin "list.extend.loop" ⟨[.ref S, .ref z, res], []⟩) R s := by
  have hh1 : A.in1.handled = none := hh
  intro k
  induction k with
  | zero =>
    intro i s acc c ts hk hi Z hS hacc hSt hR
    have hin : i = xs.size := by omega
    refine codeAny_builtin F.entry_extend_loop ?_
    rw [Around.under_plainId F.plain_extend_loop _]
    show wpAny _ A.in1 (pyNext (.ref z) >>= _) _ _ s
    refine wpAny_bind (Z.done hh1 D (by simp; omega) fun h' hk' => ?_)
    have eacc : acc = (ts.map Value.ref).toArray := by rw [← hacc] <;> simp
    refine wpAny_pure (hR h' c ts (by rw [Z.len, hin]) Z.nd hSt (fun t ht => .inl ht) (fun j t ht => ?_) ?_ fun b o hb e => hk' b o (fun q => hb (by simp at q ⊢; exact .inr q)) e)
    · obtain ⟨x, y, e1, e2, e3⟩ := Z.tup j t ht
      obtain ⟨a1, a2, a3, a4⟩ := Z.apart t (List.mem_of_getElem? ht)
      exact ⟨x, y, e1, e2, hk' _ _ (by simp [a1, a2, a3, a4]) e3⟩
    · rw [← eacc]
      refine hk' _ _ (fun q => hS7 ?_) hS
      simp at q ⊢
      rcases q with q | q | q | q <;> simp [q]
  | succ k ih =>
    intro i s acc c ts hk hi Z hS hacc hSt hR
    have hlt : i < xs.size := by omega
    have hlt2 : i < ys.size := by omega
    refine codeAny_builtin F.entry_extend_loop ?_
    rw [Around.under_plainId F.plain_extend_loop _]
    show wpAny _ A.in1 (pyNext (.ref z) >>= _) _ _ s
    refine wpAny_bind (Z.next D (Array.getElem?_eq_getElem hlt) (Array.getElem?_eq_getElem hlt2) fun h' Z' hsz hk' => ?_)
    have hS4 : S ∉ [z, TO, i1, i2] := fun q => hS7 (by simp at q ⊢; rcases q with q | q | q | q <;> simp [q])
    have hS' := hk' _ _ hS4 hS
    have hSlt := Heap.lt_size hS
    have hal : acc.size = i := by
      have := congrArg List.length hacc
      simp at this
      rw [this, Z.len]
    have hSt' : S ∉ ts ++ [s.heap.objs.size] := fun q => by
      rcases List.mem_append.mp q with q | q
      · exact hSt q
      · exact absurd (List.mem_singleton.mp q) (Nat.ne_of_lt hSlt)
    show wpAny _ A.in1 (updateSeq S (·.push (.ref s.heap.objs.size)) >>= _) _ _ _
    refine wpAny_bind ?_
    have hS2 := Heap.get?_update_self (Obj.mapSeq (·.push (Value.ref s.heap.objs.size))) hS' rfl
    have oth : ∀ b o, b ≠ S → h'.get? b = some o → (h'.update S (Obj.mapSeq (·.push (Value.ref s.heap.objs.size)))).get? b = some o := fun b o hb e => (Heap.get?_update_other _ _ (Ne.symm hb)).trans e
    refine wpAny_updateSeq hS' rfl (wpAny_pure ⟨plainId_quiet F.plain_extend_loop _, ih (i + 1) _ (acc.push (.ref s.heap.objs.size)) _ (ts ++ [s.heap.objs.size]) (by omega) hlt (Z'.frame oth hS7 hSt') hS2 (by simp [hacc]) hSt' fun h'' c' ts' g1 g2 g3 g4 g5 g6 g7 => ?_⟩)
      (by rw [hal]; omega) (by show (acc.push _).size ≤ sizeLine + 1; rw [Array.size_push, hal]; omega)
    have hupd : (h'.update S (Obj.mapSeq (·.push (Value.ref s.heap.objs.size)))).objs.size = h'.objs.size := Heap.size_update ..
    refine hR h'' c' ts' g1 g2 g3 (fun t ht => ?_) g5 g6 fun b o hb e => g7 b o hb (oth b o (fun q => hb (by simp [q])) (hk' b o (fun q => hb (by simp at q ⊢; exact .inr q)) e))
    rcases g4 t ht with h | h
    · rcases List.mem_append.mp h with h | h
      · exact .inl h
      · exact .inr (Nat.le_of_eq (List.mem_singleton.mp h).symm)
    · right
      have h : (h'.update S (Obj.mapSeq (·.push (Value.ref s.heap.objs.size)))).objs.size ≤ t := h
      rw [hupd, hsz] at h
      exact Nat.le_trans (Nat.le_succ _) h
/-- where the list stands in the end -/
def ZEnd (z TO i1 i2 S : Addr) (xs ys : Array Value) (h : Heap) (h' : Heap) (ts : List Addr) : Prop :=
  ts.length = xs.size ∧ ts.Nodup ∧ S ∉ ts ∧ (∀ t ∈ ts, h.objs.size ≤ t) ∧ (∀ (j : Nat) t, ts[j]? = some t → ∃ x y, xs[j]? = some x ∧ ys[j]? = some y ∧ IsPair h' t x y) ∧
    (∃ c, h'.get? S = some { cls := .type "list", dict := none, data := .seq (ts.map Value.ref).toArray c, slots := #[] }) ∧ ∀ b o, b ∉ [S, z, TO, i1, i2] → h.get? b = some o → h'.get? b = some o
theorem zip_no_len : typeLookup (.type "zip") "__len__" = pure none := by rw [typeLookup_type, builtinLookup_eq_fast]; kernel_rfl
theorem zip_no_hint : typeLookup (.type "zip") "__length_hint__" = pure none := by rw [typeLookup_type, builtinLookup_eq_fast]; kernel_rfl
theorem zip_extend {z TI TO i1 i2 l1 l2 S : Addr} {xs ys : Array Value} {res : Value} {R : Result → Shared → Prop} (hh : A.handled = none) (D : ZipApart z TI TO i1 i2 l1 l2) (hxy : xs.size = ys.size) (hn : xs.size ≤ sizeLine) (hS7 : S ∉ [z, TI, TO, i1, i2, l1, l2])
    (Z : ZS z TI TO i1 i2 l1 l2 xs ys s.heap 0 []) {c₀ : Nat} (hS : s.heap.get? S = some { cls := .type "list", data := .seq #[] c₀ }) (hR : ∀ h' ts, ZEnd z TO i1 i2 S xs ys s.heap h' ts → R (.ok (.ret res)) { s with heap := h' }) :
    wpAny (model prog w) A.in1 (Builtin.List.listExtendWith (.ref S) (.ref z) res)
      (fun fin s' => match fin with | .done f => R (.ok f) s' | .again c' => c'.quiet = true ∧ codeAny (model prog w) A c' R s') (fun e s' => R (.error e) s') s := by
  have hz : IsZip s.heap z TI TO .none := by
    rcases Z.zip with ⟨_, h⟩ | ⟨_, _, e, _⟩
    · exact h
    · simp at e
  have hT : s.TypeIs (.ref z) "zip" := ⟨_, hz, rfl⟩
  have hSz : S ≠ z := fun q => hS7 (by simp [q])
  unfold Builtin.List.listExtendWith
  refine wpAny_bind (wpAny_typeOf hT ?_)
  have h1 : Builtin.List.listSameRef (.ref S) (.ref z) = false := by simp [Builtin.List.listSameRef, hSz]
  have h2 : (Value.type "zip" == Value.type "list") = false := by decide
  have h3 : (Value.type "zip" == Value.type "tuple") = false := by decide
  simp only [h1, h2, h3, Bool.or_false, Bool.false_eq_true, if_false]
  refine wpAny_bind (wpAny_pyIter_zip hz ?_)
  refine wpAny_bind (wpAny_holding ?_)
  unfold Builtin.List.listLengthHint
  refine wpAny_bind (wpAny_specialOf hT zip_no_len ?_)
  show wpAny _ A.in1 (specialOf (Value.ref z) (Str.ofString "__length_hint__") >>= _) _ _ _
  refine wpAny_bind (wpAny_specialOf hT zip_no_hint ?_)
  refine wpAny_pure ?_
  show wpAny _ A.in1 (rule "list.extend.makes-room" >>= fun _ => Builtin.List.listTouch (.ref S) >>= fun _ =>
    again (.builtin "list.extend.loop" ⟨[.ref S, .ref z, res], []⟩)) _ _ _
  refine wpAny_bind (wpAny_rule ?_)
  refine wpAny_bind ?_
  show wpAny _ A.in1 (updateSeq S (·.push .none) >>= fun _ => updateSeq S (·.pop)) _ _ _
  refine wpAny_bind (wpAny_updateSeq hS rfl ?_)
  have hS2 := Heap.get?_update_self (Obj.mapSeq (·.push Value.none)) hS rfl
  refine wpAny_updateSeq (hz := by seq_fits) hS2 rfl ?_
  have hS3 := Heap.get?_update_self (Obj.mapSeq (·.pop)) hS2 rfl
  have oth : ∀ b o, b ≠ S → s.heap.get? b = some o → ((s.heap.update S (Obj.mapSeq (·.push Value.none))).update S (Obj.mapSeq (·.pop))).get? b = some o :=
    fun b o hb e => (Heap.get?_update_other _ _ (Ne.symm hb)).trans ((Heap.get?_update_other _ _ (Ne.symm hb)).trans e)
  have hsz : ((s.heap.update S (Obj.mapSeq (·.push Value.none))).update S (Obj.mapSeq (·.pop))).objs.size = s.heap.objs.size := (Heap.size_update ..).trans (Heap.size_update ..)
  refine wpAny_pure ⟨plainId_quiet F.plain_extend_loop _, zip_loop hh D hxy hn hS7 xs.size 0 _ _ _ [] rfl (Nat.zero_le _) (Z.frame oth hS7 (by simp)) hS3 rfl (by simp) fun h' c' ts' g1 g2 g3 g4 g5 g6 g7 => ?_⟩
  refine hR h' ts' ⟨g1, g2, g3, fun t ht => ?_, g5, ⟨c', g6⟩, fun b o hb e => g7 b o hb (oth b o (fun q => hb (by simp [q])) e)⟩
  have h := (g4 t ht).resolve_left (by simp)
  have h : ((s.heap.update S (Obj.mapSeq (·.push Value.none))).update S (Obj.mapSeq (·.pop))).objs.size ≤ t := h
  rw [hsz] at h
  exact h
theorem zip_init {z TI TO i1 i2 l1 l2 S : Addr} {xs ys : Array Value} {R : Result → Shared → Prop} (hh : A.handled = none) (D : ZipApart z TI TO i1 i2 l1 l2) (hxy : xs.size = ys.size) (hn : xs.size ≤ sizeLine) (hS7 : S ∉ [z, TI, TO, i1, i2, l1, l2])
    (Z : ZS z TI TO i1 i2 l1 l2 xs ys s.heap 0 []) (hS : s.heap.get? S = some { cls := .type "list", data := .seq #[] }) (hR : ∀ h' ts, ZEnd z TO i1 i2 S xs ys s.heap h' ts → R (.ok (.ret .none)) { s with heap := h' }) :
    wpAny (model prog w) A.in1 (Builtin.«list.__init__» ⟨[.ref S, .ref z], []⟩)
      (fun fin s' => match fin with | .done f => R (.ok f) s' | .again c' => c'.quiet = true ∧ codeAny (model prog w) A c' R s') (fun e s' => R (.error e) s') s := by
  show wpAny _ A.in1 (do let old ← Builtin.List.listItems (.ref S); Builtin.List.listUpdate (.ref S) (fun _ => #[]); letGo old.toList.reverse; Builtin.List.listExtendWith (.ref S) (.ref z) .none) _ _ s
  refine wpAny_bind ?_
  unfold Builtin.List.listItems
  refine wpAny_bind (wpAny_seqItems hS rfl (wpAny_pure ?_))
  show wpAny _ A.in1 (updateSeq S (fun _ => #[]) >>= fun _ => letGo (#[] : Array Value).toList.reverse >>= fun _ => Builtin.List.listExtendWith (.ref S) (.ref z) .none) _ _ s
  refine wpAny_bind (wpAny_updateSeq hS rfl ?_)
  have hS2 := Heap.get?_update_self (Obj.mapSeq (fun _ => (#[] : Array Value))) hS rfl
  have oth : ∀ b o, b ≠ S → s.heap.get? b = some o → (s.heap.update S (Obj.mapSeq (fun _ => (#[] : Array Value)))).get? b = some o :=
    fun b o hb e => (Heap.get?_update_other _ _ (Ne.symm hb)).trans e
  have hsz : (s.heap.update S (Obj.mapSeq (fun _ => (#[] : Array Value)))).objs.size = s.heap.objs.size := Heap.size_update ..
  refine wpAny_bind (wpAny_letGo ?_)
  refine zip_extend (s := { s with heap := s.heap.update S (Obj.mapSeq (fun _ => (#[] : Array Value))) }) hh D hxy hn hS7 (Z.frame oth hS7 (by simp)) hS2 fun h' ts hz => ?_
  obtain ⟨g1, g2, g3, g4, g5, g6, g7⟩ := hz
  refine hR h' ts ⟨g1, g2, g3, fun t ht => ?_, g5, g6, fun b o hb e => g7 b o hb (oth b o (fun q => hb (by simp [q])) e)⟩
  have h : (s.heap.update S (Obj.mapSeq (fun _ => (#[] : Array Value)))).objs.size ≤ t := g4 t ht
  rw [hsz] at h
  exact h
/-- list(z), z a zip that has given nothing yet -/
theorem call_list_zip {z TI TO i1 i2 l1 l2 : Addr} {xs ys : Array Value} {Q : Value → Shared → Prop} (hh : A.handled = none) (D : ZipApart z TI TO i1 i2 l1 l2) (hxy : xs.size = ys.size) (hn : xs.size ≤ sizeLine)
    (Z : ZS z TI TO i1 i2 l1 l2 xs ys s.heap 0 []) (hR : ∀ h' ts, ZEnd z TO i1 i2 s.heap.objs.size xs ys (s.heap.push { cls := .type "list", data := .seq #[] }) h' ts → Q (.ref s.heap.objs.size) { s with heap := h' }) :
    wpAny (model prog w) A (call (.type "list") [.ref z]) Q E s := by
  obtain ⟨a, b, hto⟩ := Z.to
  have hz : IsZip s.heap z TI TO .none := by
    rcases Z.zip with ⟨_, h⟩ | ⟨_, _, e, _⟩
    · exact h
    · simp at e
  have hS7 : s.heap.objs.size ∉ [z, TI, TO, i1, i2, l1, l2] := fun q => by
    obtain ⟨_, w1, _⟩ := Z.it1
    obtain ⟨_, w2, _⟩ := Z.it2
    obtain ⟨_, w3, _⟩ := Z.l1
    obtain ⟨_, w4, _⟩ := Z.l2
    have u1 := Heap.lt_size hz
    have u2 := Heap.lt_size Z.ti
    have u3 := Heap.lt_size hto
    have u4 := Heap.lt_size w1
    have u5 := Heap.lt_size w2
    have u6 := Heap.lt_size w3
    have u7 := Heap.lt_size w4
    simp at q
    rcases q with q | q | q | q | q | q | q
    · exact absurd q (Nat.ne_of_gt u1)
    · exact absurd q (Nat.ne_of_gt u2)
    · exact absurd q (Nat.ne_of_gt u3)
    · exact absurd q (Nat.ne_of_gt u4)
    · exact absurd q (Nat.ne_of_gt u5)
    · exact absurd q (Nat.ne_of_gt u6)
    · exact absurd q (Nat.ne_of_gt u7)
  refine callType_codes (Q₁ := fun obj s₁ => obj = .ref s.heap.objs.size ∧ s₁ = { s with heap := s.heap.push { cls := .type "list", data := .seq #[] } }) F.called_list (F.typeCall_list_1 _) F.entry_list_init
    (code_list_new _ ⟨rfl, rfl⟩) fun obj s₁ h₁ => ?_
  obtain ⟨rfl, rfl⟩ := h₁
  have hS : (s.heap.push { cls := .type "list", data := .seq #[] }).get? s.heap.objs.size = some { cls := .type "list", data := .seq #[] } := Heap.get?_push_size _ rfl
  have hh2 : A.in1.handled = none := hh
  refine ⟨⟨_, hS, rfl⟩, F.args_list_init_2 _ _, zip_init (s := { s with heap := s.heap.push { cls := .type "list", data := .seq #[] } }) hh2 D hxy hn hS7 (Z.frame (S := s.heap.objs.size) (fun b o _ e => Heap.get?_push_of_some _ e) hS7 (by simp)) hS fun h' ts hz => ?_⟩
  exact ⟨rfl, hR h' ts hz⟩
end
end K95
set_option Elab.async false
set_option linter.all false
set_option maxRecDepth 100000
set_option maxHeartbeats 0
namespace K95
open PySem PySem.Spec PyProof.Rows L2
def topS (i : Nat) : Stmt := PySem.Challenge.pw_letterfolds_k95_whole_divisions.main.body.getD i (.Pass ⟨0, 0, 0, 0⟩)
def defName (s : Stmt) : Str := match s with
  | .FunctionDef n _ _ _ _ _ _ _ _ _ => n
  | _ => "none"
def df (st : Stmt) (x : Str) (m : Option Str) (q : Str) : He.DefD := ⟨(x, m), defName st, q, defArgs st, defBody st, defScope st, [], []⟩
def d_is_number : He.DefD := df (topS 11) "is_number" none "is_number"
def d_is_sequence : He.DefD := df (topS 12) "is_sequence" none "is_sequence"
def d_check_form : He.DefD := df (topS 17) "check_form" none "check_form"
def d_check_order : He.DefD := df (topS 18) "check_order" none "check_order"
def d_tree_of : He.DefD := df (topS 19) "tree_of" none "tree_of"
def d_left_of : He.DefD := df (topS 20) "left_of" none "left_of"
def d_check_products : He.DefD := df (topS 21) "check_products" none "check_products"
def dM_init : He.DefD := df (inClass (topS 22) 0) "Monoid" (some "__init__") "Monoid.__init__"
def dM_check_number : He.DefD := df (inClass (topS 22) 2) "Monoid" (some "check_number") "Monoid.check_number"
def dM_size : He.DefD := df (inClass (topS 22) 3) "Monoid" (some "size") "Monoid.size"
def dM_all_words : He.DefD := df (inClass (topS 22) 4) "Monoid" (some "all_words") "Monoid.all_words"
def dM_words : He.DefD := df (inClass (topS 22) 5) "Monoid" (some "words") "Monoid.words"
def dM_left : He.DefD := df (inClass (topS 22) 6) "Monoid" (some "left") "Monoid.left"
def dM_path_of : He.DefD := df (inClass (topS 22) 9) "Monoid" (some "path_of") "Monoid.path_of"
def dM_product : He.DefD := df (inClass (topS 22) 10) "Monoid" (some "product") "Monoid.product"
def dM_times : He.DefD := df (inClass (topS 22) 11) "Monoid" (some "times") "Monoid.times"
def d_checked : He.DefD := df (topS 23) "checked" none "checked"
def d_is_number_of : He.DefD := df (topS 27) "is_number_of" none "is_number_of"
def d_check_numbers : He.DefD := df (topS 28) "check_numbers" none "check_numbers"
def d_steps_by_letters : He.DefD := df (topS 29) "steps_by_letters" none "steps_by_letters"
def d_root_of : He.DefD := df (topS 30) "root_of" none "root_of"
def d_joined_with : He.DefD := df (topS 31) "joined_with" none "joined_with"
def d_told_classes : He.DefD := df (topS 32) "told_classes" none "told_classes"
def d_closed : He.DefD := df (topS 33) "closed" none "closed"
def d_is_congruence : He.DefD := df (topS 34) "is_congruence" none "is_congruence"
def d_check_congruence : He.DefD := df (topS 35) "check_congruence" none "check_congruence"
def d_congruence : He.DefD := df (topS 36) "congruence" none "congruence"
def d_joined_classes : He.DefD := df (topS 37) "joined_classes" none "joined_classes"
def d_lattice_key : He.DefD := df (topS 38) "lattice_key" none "lattice_key"
def d_congruences : He.DefD := df (topS 39) "congruences" none "congruences"
def d_quotient : He.DefD := df (topS 40) "quotient" none "quotient"
def d_values_by_words : He.DefD := df (topS 43) "values_by_words" none "values_by_words"
def d_first_broken : He.DefD := df (topS 44) "first_broken" none "first_broken"
def d_check_search : He.DefD := df (topS 45) "check_search" none "check_search"
def d_all_rows : He.DefD := df (topS 46) "all_rows" none "all_rows"
def d_isomorphism : He.DefD := df (topS 47) "isomorphism" none "isomorphism"
def d_walked : He.DefD := df (topS 52) "walked" none "walked"
def d_submonoid : He.DefD := df (topS 53) "submonoid" none "submonoid"
def d_generated : He.DefD := df (topS 54) "generated" none "generated"
def d_is_well_led : He.DefD := df (topS 55) "is_well_led" none "is_well_led"
def d_division : He.DefD := df (topS 56) "division" none "division"
def d_pair_behind : He.DefD := df (topS 57) "pair_behind" none "pair_behind"
def d_direct : He.DefD := df (topS 58) "direct" none "direct"
def d_law_cell_at : He.DefD := df (topS 60) "_law_cell_at" none "_law_cell_at"
def d_law_mixed : He.DefD := df (topS 61) "_law_mixed" none "_law_mixed"
def d_law_source : He.DefD := df (topS 62) "_law_source" none "_law_source"
def d_law_next : He.DefD := df (topS 63) "_law_next" none "_law_next"
def d_law_listed : He.DefD := df (topS 65) "_law_listed" none "_law_listed"
def d_law_drawn : He.DefD := df (topS 66) "_law_drawn" none "_law_drawn"
def d_law_products : He.DefD := df (topS 67) "_law_products" none "_law_products"
def d_law_rows : He.DefD := df (topS 68) "_law_rows" none "_law_rows"
def d_law_leads : He.DefD := df (topS 69) "_law_leads" none "_law_leads"
def d_law_submonoids : He.DefD := df (topS 70) "_law_submonoids" none "_law_submonoids"
def d_law_by_parts : He.DefD := df (topS 71) "_law_by_parts" none "_law_by_parts"
def d_law_congruences : He.DefD := df (topS 72) "_law_congruences" none "_law_congruences"
def d_law_right : He.DefD := df (topS 73) "_law_right" none "_law_right"
def d_law : He.DefD := df (topS 74) "law" none "law"
def fnL : List He.DefD := [d_is_number, d_is_sequence, d_check_form, d_check_order, d_tree_of, d_left_of, d_check_products, dM_init,
  dM_check_number, dM_size, dM_all_words, dM_words, dM_left, dM_path_of, dM_product, dM_times,
  d_checked, d_is_number_of, d_check_numbers, d_steps_by_letters, d_root_of, d_joined_with, d_told_classes, d_closed,
  d_is_congruence, d_check_congruence, d_congruence, d_joined_classes, d_lattice_key, d_congruences, d_quotient, d_values_by_words,
  d_first_broken, d_check_search, d_all_rows, d_isomorphism, d_walked, d_submonoid, d_generated, d_is_well_led,
  d_division, d_pair_behind, d_direct, d_law_cell_at, d_law_mixed, d_law_source, d_law_next, d_law_listed,
  d_law_drawn, d_law_products, d_law_rows, d_law_leads, d_law_submonoids, d_law_by_parts, d_law_congruences, d_law_right,
  d_law]
def faL : List He.Fa := [.glo "is_number", .glo "is_sequence", .glo "check_form", .glo "check_order", .glo "tree_of", .glo "left_of",
  .glo "check_products", .glo "checked", .glo "is_number_of", .glo "check_numbers", .glo "steps_by_letters", .glo "root_of",
  .glo "joined_with", .glo "told_classes", .glo "closed", .glo "is_congruence", .glo "check_congruence", .glo "congruence",
  .glo "joined_classes", .glo "lattice_key", .glo "congruences", .glo "quotient", .glo "values_by_words", .glo "first_broken",
  .glo "check_search", .glo "all_rows", .glo "isomorphism", .glo "walked", .glo "submonoid", .glo "generated",
  .glo "is_well_led", .glo "division", .glo "pair_behind", .glo "direct", .glo "_law_cell_at", .glo "_law_mixed",
  .glo "_law_source", .glo "_law_next", .glo "_law_listed", .glo "_law_drawn", .glo "_law_products", .glo "_law_rows",
  .glo "_law_leads", .glo "_law_submonoids", .glo "_law_by_parts", .glo "_law_congruences", .glo "_law_right", .glo "law",
  .glo "Monoid", .glo "TooMany", .free "isinstance", .free "int", .free "bool", .free "list",
  .free "tuple", .free "len", .free "enumerate", .free "all", .free "range", .free "set",
  .free "sorted", .free "max", .free "min", .free "zip", .int "MOST_ELEMENTS_monoids" 2000, .int "MOST_LETTERS_monoids" 6,
  .int "MOST_LATTICE" 30, .int "MOST_CONGRUENCES" 100, .int "MOST_SEARCHED_morphisms" 500000, .int "MOST_LETTERS_parts" 6, .int "MOST_ELEMENTS_parts" 2000, .int "MOST_SEARCHED_parts" 500000,
  .str "LETTERS" "abcdef", .cls "Monoid", .noat "Monoid" "right", .noat "Monoid" "tree", .noat "Monoid" "lefts", .noat "Monoid" "memory",
  .meth "Monoid" "check_number", .meth "Monoid" "size", .meth "Monoid" "all_words", .meth "Monoid" "words", .meth "Monoid" "left", .meth "Monoid" "path_of",
  .meth "Monoid" "product", .meth "Monoid" "times", .mkr "Monoid"]
def tfL : List He.Defn := [("submonoid", none), ("generated", none), ("direct", none)]
def names0 : List PySem.Str := ["_wall", "__name__", "FoldError", "NoNumber", "NoMonoid", "TooMany", "NoPairs", "NoCongruence", "NoNumbers", "Fact", "is_number", "is_sequence"]
def names1 : List PySem.Str := ["LETTERS", "MOST_ELEMENTS_monoids", "MOST_LETTERS_monoids", "check_form", "check_order", "tree_of", "left_of", "check_products", "Monoid", "checked", "MOST_LATTICE", "MOST_CONGRUENCES"]
def names2 : List PySem.Str := ["is_number_of", "check_numbers", "steps_by_letters", "root_of", "joined_with", "told_classes", "closed", "is_congruence", "check_congruence", "congruence", "joined_classes", "lattice_key"]
def names3 : List PySem.Str := ["congruences", "quotient", "MOST_SEARCHED_morphisms", "values_by_words", "first_broken", "check_search", "all_rows", "isomorphism", "MOST_LETTERS_parts", "MOST_ELEMENTS_parts", "MOST_SEARCHED_parts", "walked"]
def names4 : List PySem.Str := ["submonoid", "generated", "is_well_led", "division", "pair_behind", "direct", "_law_cell_at", "_law_mixed", "_law_source", "_law_next", "_law_one", "_law_listed"]
def names5 : List PySem.Str := ["_law_drawn", "_law_products", "_law_rows", "_law_leads", "_law_submonoids", "_law_by_parts", "_law_congruences", "_law_right"]
def namesA : List PySem.Str := names0 ++ names1 ++ names2 ++ names3 ++ names4 ++ names5
/-! ### a hook by forced lists -/
open He in
def frL {α : Type} : List Addr → (List Addr → α) → α
  | [], k => k []
  | a :: r, k => HandSHeadRun.frNat a fun a => frL r fun r => k (a :: r)
theorem frL_eq {α : Type} : ∀ (l : List Addr) (k : List Addr → α), frL l k = k l
  | [], k => rfl
  | a :: r, k => by
    show HandSHeadRun.frNat a (fun a => frL r fun r => k (a :: r)) = _
    rw [HandSHeadRun.frNat_eq, frL_eq r]
def frK {α : Type} (g : Addr → Option Obj) : List Addr → (PySem.W.Frag → α) → α
  | [], k => k []
  | a :: r, k => match g a with
    | some o => frK g r fun K => k ((a, o) :: K)
    | none => frK g r k
theorem frK_eq {α : Type} (g : Addr → Option Obj) : ∀ (l : List Addr) (k : PySem.W.Frag → α), frK g l k = k (He.frG g l)
  | [], k => rfl
  | a :: r, k => by
    unfold He.frG
    rw [List.filterMap_cons]
    show (match g a with
      | some o => frK g r fun K => k ((a, o) :: K)
      | none => frK g r k) = _
    cases g a with
    | none => exact frK_eq g r k
    | some o => exact frK_eq g r _
def kids (o : Obj) : List Addr := match o.data with
  | .dict es _ => es.toList.flatMap fun e => He.refV e.val
  | .func fd => He.refV fd.code
  | .cls cd => cd.ns :: cd.mro.flatMap He.refV
  | _ => []
def kidsOf (g : Addr → Option Obj) (as : List Addr) : List Addr := as.flatMap fun a => match g a with
  | some o => kids o
  | none => []
def asZ (g : Addr → Option Obj) : List Addr :=
  mainGlobals :: (kidsOf g [mainGlobals] ++ (kidsOf g (kidsOf g [mainGlobals]) ++ (kidsOf g (kidsOf g (kidsOf g [mainGlobals])) ++ kidsOf g (kidsOf g (kidsOf g (kidsOf g [mainGlobals]))))))
def eqO' (a b : Option (Option Value)) : Bool := He.eqO a b
abbrev AlZ : Type := Bool × List He.FnW
def tabZ (g : Addr → Option Obj) (tf : List He.Defn) (K : PySem.W.Frag) : Bool := tf.all fun p => PySem.W.codeHdIn K (He.cT K p).1 (He.cT K p).2 && ((match g (He.cT K p).2 with
    | some o => He.emptyTab o
    | none => false) && (K.lookup (He.cT K p).2).isNone)
/-- isinstance's wants, and that no two tables are one -/
def exB (tf : List He.Defn) (K : PySem.W.Frag) : Bool := (eqO' (PySem.W.findIn K (.ref (He.ga K "Monoid")) "__class__") (some (some (.builtin "object.__class__"))) && (eqO' (PySem.W.specialIn K (.builtin "object.__class__") "__get__") (some (some (.builtin "getset_descriptor.__get__"))) &&
  (decide (PySem.W.takesIn K (.builtin "object.__class__") = some true) && (decide (PySem.W.mroIn K (He.ga K "Monoid") (.type "object") = some true) && decide (PySem.W.kitOne K (.ref (He.ga K "Monoid")) (.ref (He.ga K "Monoid")) = some true))))) && decide ((tf.map fun p => (He.cT K p).2).Nodup)
def obsK (fa : List He.Fa) (fn : List He.DefD) (tf : List He.Defn) (g : Addr → Option Obj) (K : PySem.W.Frag) : AlZ := ((fa.all fun f => f.ok K) && ((fn.all fun d => d.ok K) && (tabZ g tf K && exB tf K)), fn.map fun d => He.fnW K d.at_)
def obsZ (fa : List He.Fa) (fn : List He.DefD) (tf : List He.Defn) (g : Addr → Option Obj) : AlZ :=
  frL (kidsOf g [mainGlobals]) fun l1 => frL (kidsOf g l1) fun l2 => frL (kidsOf g l2) fun l3 => frL (kidsOf g l3) fun l4 => frK g (mainGlobals :: (l1 ++ (l2 ++ (l3 ++ l4)))) fun K => obsK fa fn tf g K
theorem obsZ_eq (fa : List He.Fa) (fn : List He.DefD) (tf : List He.Defn) (g : Addr → Option Obj) : obsZ fa fn tf g = obsK fa fn tf g (He.frG g (asZ g)) := by
  unfold obsZ asZ
  rw [frL_eq, frL_eq, frL_eq, frL_eq, frK_eq]
def valZ (fn : List He.DefD) : AlZ := (true, fn.map He.DefD.val)
/-- what is told of the head -/
structure SaysZ (fa : List He.Fa) (fn : List He.DefD) (tf : List He.Defn) (h : Heap) (K : PySem.W.Frag) : Prop where
  fact : ∀ f ∈ fa, f.ok K = true
  def_ : ∀ d ∈ fn, ∃ fd, FunD K d.name d.qual d.params d.body d.scope (d.dvs K) (d.kws K) (He.fAd K d.at_) fd
  hd : ∀ p ∈ tf, PySem.W.codeHdIn K (He.cT K p).1 (He.cT K p).2 = true
  out : ∀ p ∈ tf, K.lookup (He.cT K p).2 = none
  empty : ∀ p ∈ tf, h.get? (He.cT K p).2 = some { cls := .none, data := .fields #[] }
  ex : exB tf K = true
theorem saysZ_of {fa : List He.Fa} {fn : List He.DefD} {tf : List He.Defn} {h : Heap} (e : obsZ fa fn tf h.get? = valZ fn) : SaysZ fa fn tf h (He.frG h.get? (asZ h.get?)) := by
  rw [obsZ_eq] at e
  generalize He.frG h.get? (asZ h.get?) = K at e
  have e1 : ((fa.all fun f => f.ok K) && ((fn.all fun d => d.ok K) && (tabZ h.get? tf K && exB tf K))) = true := congrArg (fun z : AlZ => z.1) e
  have e2 : (fn.map fun d => He.fnW K d.at_) = fn.map He.DefD.val := congrArg (fun z : AlZ => z.2) e
  obtain ⟨c1, c2⟩ := He.ba e1
  obtain ⟨c3, c5⟩ := He.ba c2
  obtain ⟨c4, c6⟩ := He.ba c5
  refine ⟨fun f hf => List.all_eq_true.mp c1 f hf, fun d hd => ?_, fun p hp => ?_, fun p hp => ?_, fun p hp => ?_, c6⟩
  · obtain ⟨i, hi, ed⟩ := List.mem_iff_getElem.mp hd
    have e3 : (fn.map fun d => He.fnW K d.at_)[i]? = (fn.map He.DefD.val)[i]? := by rw [e2]
    rw [List.getElem?_map, List.getElem?_map, List.getElem?_eq_getElem hi, ed] at e3
    exact He.DefD.funD (Option.some.inj e3) (List.all_eq_true.mp c3 d hd)
  · exact (He.ba (List.all_eq_true.mp c4 p hp)).1
  · have z := (He.ba (He.ba (List.all_eq_true.mp c4 p hp)).2).2
    exact Option.isNone_iff_eq_none.mp z
  · have z := (He.ba (He.ba (List.all_eq_true.mp c4 p hp)).2).1
    cases q : h.get? (He.cT K p).2 with
    | none =>
      rw [q] at z
      cases z
    | some o =>
      rw [q] at z
      rw [He.emptyTab_eq z]
def hookZ (fa : List He.Fa) (fn : List He.DefD) (tf : List He.Defn) : PySem.W.Hook where
  α := AlZ
  obs := fun s => obsZ fa fn tf s.heap.get?
  val := fun _ => valZ fn
  says := fun _ h => ∃ K : PySem.W.Frag, K.In h ∧ SaysZ fa fn tf h K
  of := fun _ _ e => ⟨_, He.frG_in, saysZ_of e⟩
  keeps := fun _ _ _ ⟨K, hK, c⟩ k => ⟨K, PySem.W.Frag.In.keeps hK k, ⟨c.fact, c.def_, c.hd, c.out, fun p hp => k _ _ (c.empty p hp), c.ex⟩⟩
theorem obsZ_g {fa : List He.Fa} {fn : List He.DefD} {tf : List He.Defn} {g : Addr → Option Obj} {s : Shared} (h : ∀ a, g a = s.heap.get? a) : obsZ fa fn tf g = (hookZ fa fn tf).obs s := by
  have e : g = s.heap.get? := funext h
  rw [e] <;> rfl
/-- what the walks know of the top -/
structure Txt (K : PySem.W.Frag) (mg : Str → Option Value) : Prop where
  kin : ∃ h : Heap, K.In h ∧ h.Ns mainGlobals mg
  fact : ∀ f ∈ faL, f.ok K = true
  def_ : ∀ d ∈ fnL, ∃ fd, FunD K d.name d.qual d.params d.body d.scope [] [] (He.fAd K d.at_) fd
  ex : exB tfL K = true
theorem SaysZ.txt {h : Heap} {K : PySem.W.Frag} {mg : Str → Option Value} (X : K.In h) (G : h.Ns mainGlobals mg) (c : SaysZ faL fnL tfL h K) : Txt K mg := ⟨⟨h, X, G⟩, c.fact, (fun d hd => by
  obtain ⟨fd, F⟩ := c.def_ d hd
  have e : d.dfl = [] ∧ d.kwd = [] := by
    have : ∀ d ∈ fnL, d.dfl = [] ∧ d.kwd = [] := by
      intro d hd
      simp only [fnL, List.mem_cons, List.not_mem_nil, or_false] at hd
      rcases hd with rfl | rfl | rfl | rfl | rfl | rfl | rfl | rfl | rfl | rfl | rfl | rfl | rfl | rfl | rfl | rfl | rfl | rfl | rfl | rfl | rfl | rfl | rfl | rfl | rfl | rfl | rfl | rfl | rfl | rfl | rfl | rfl | rfl | rfl | rfl | rfl | rfl | rfl | rfl | rfl | rfl | rfl | rfl | rfl | rfl | rfl | rfl | rfl | rfl | rfl | rfl | rfl | rfl | rfl | rfl | rfl | rfl <;> exact ⟨rfl, rfl⟩
    exact this d hd
  refine ⟨fd, ?_⟩
  have e1 : d.dvs K = [] := by unfold He.DefD.dvs; rw [e.1]; rfl
  have e2 : d.kws K = [] := by unfold He.DefD.kws; rw [e.2]; rfl
  rw [← e1, ← e2]
  simpa [e1, e2] using F), c.ex⟩
section
variable {K : PySem.W.Frag} {mg : Str → Option Value}
theorem Txt.fa (T : Txt K mg) (i : Nat) {f : He.Fa} (h : faL[i]? = some f := by rfl) : f.ok K = true := T.fact f (List.mem_of_getElem? h)
theorem Txt.fn (T : Txt K mg) (i : Nat) {d : He.DefD} (h : fnL[i]? = some d := by rfl) : ∃ fd, FunD K d.name d.qual d.params d.body d.scope [] [] (He.fAd K d.at_) fd := T.def_ d (List.mem_of_getElem? h)
theorem Txt.g_is_number (T : Txt K mg) : mg "is_number" = some (.ref (He.ga K "is_number")) := by
  obtain ⟨h, X, G⟩ := T.kin
  exact He.glo_ok X G (T.fa 0)
theorem Txt.g_is_sequence (T : Txt K mg) : mg "is_sequence" = some (.ref (He.ga K "is_sequence")) := by
  obtain ⟨h, X, G⟩ := T.kin
  exact He.glo_ok X G (T.fa 1)
theorem Txt.g_check_form (T : Txt K mg) : mg "check_form" = some (.ref (He.ga K "check_form")) := by
  obtain ⟨h, X, G⟩ := T.kin
  exact He.glo_ok X G (T.fa 2)
theorem Txt.g_check_order (T : Txt K mg) : mg "check_order" = some (.ref (He.ga K "check_order")) := by
  obtain ⟨h, X, G⟩ := T.kin
  exact He.glo_ok X G (T.fa 3)
theorem Txt.g_tree_of (T : Txt K mg) : mg "tree_of" = some (.ref (He.ga K "tree_of")) := by
  obtain ⟨h, X, G⟩ := T.kin
  exact He.glo_ok X G (T.fa 4)
theorem Txt.g_left_of (T : Txt K mg) : mg "left_of" = some (.ref (He.ga K "left_of")) := by
  obtain ⟨h, X, G⟩ := T.kin
  exact He.glo_ok X G (T.fa 5)
theorem Txt.g_check_products (T : Txt K mg) : mg "check_products" = some (.ref (He.ga K "check_products")) := by
  obtain ⟨h, X, G⟩ := T.kin
  exact He.glo_ok X G (T.fa 6)
theorem Txt.g_checked (T : Txt K mg) : mg "checked" = some (.ref (He.ga K "checked")) := by
  obtain ⟨h, X, G⟩ := T.kin
  exact He.glo_ok X G (T.fa 7)
theorem Txt.g_is_number_of (T : Txt K mg) : mg "is_number_of" = some (.ref (He.ga K "is_number_of")) := by
  obtain ⟨h, X, G⟩ := T.kin
  exact He.glo_ok X G (T.fa 8)
theorem Txt.g_check_numbers (T : Txt K mg) : mg "check_numbers" = some (.ref (He.ga K "check_numbers")) := by
  obtain ⟨h, X, G⟩ := T.kin
  exact He.glo_ok X G (T.fa 9)
theorem Txt.g_steps_by_letters (T : Txt K mg) : mg "steps_by_letters" = some (.ref (He.ga K "steps_by_letters")) := by
  obtain ⟨h, X, G⟩ := T.kin
  exact He.glo_ok X G (T.fa 10)
theorem Txt.g_root_of (T : Txt K mg) : mg "root_of" = some (.ref (He.ga K "root_of")) := by
  obtain ⟨h, X, G⟩ := T.kin
  exact He.glo_ok X G (T.fa 11)
theorem Txt.g_joined_with (T : Txt K mg) : mg "joined_with" = some (.ref (He.ga K "joined_with")) := by
  obtain ⟨h, X, G⟩ := T.kin
  exact He.glo_ok X G (T.fa 12)
theorem Txt.g_told_classes (T : Txt K mg) : mg "told_classes" = some (.ref (He.ga K "told_classes")) := by
  obtain ⟨h, X, G⟩ := T.kin
  exact He.glo_ok X G (T.fa 13)
theorem Txt.g_closed (T : Txt K mg) : mg "closed" = some (.ref (He.ga K "closed")) := by
  obtain ⟨h, X, G⟩ := T.kin
  exact He.glo_ok X G (T.fa 14)
theorem Txt.g_is_congruence (T : Txt K mg) : mg "is_congruence" = some (.ref (He.ga K "is_congruence")) := by
  obtain ⟨h, X, G⟩ := T.kin
  exact He.glo_ok X G (T.fa 15)
theorem Txt.g_check_congruence (T : Txt K mg) : mg "check_congruence" = some (.ref (He.ga K "check_congruence")) := by
  obtain ⟨h, X, G⟩ := T.kin
  exact He.glo_ok X G (T.fa 16)
theorem Txt.g_congruence (T : Txt K mg) : mg "congruence" = some (.ref (He.ga K "congruence")) := by
  obtain ⟨h, X, G⟩ := T.kin
  exact He.glo_ok X G (T.fa 17)
theorem Txt.g_joined_classes (T : Txt K mg) : mg "joined_classes" = some (.ref (He.ga K "joined_classes")) := by
  obtain ⟨h, X, G⟩ := T.kin
  exact He.glo_ok X G (T.fa 18)
theorem Txt.g_lattice_key (T : Txt K mg) : mg "lattice_key" = some (.ref (He.ga K "lattice_key")) := by
  obtain ⟨h, X, G⟩ := T.kin
  exact He.glo_ok X G (T.fa 19)
theorem Txt.g_congruences (T : Txt K mg) : mg "congruences" = some (.ref (He.ga K "congruences")) := by
  obtain ⟨h, X, G⟩ := T.kin
  exact He.glo_ok X G (T.fa 20)
theorem Txt.g_quotient (T : Txt K mg) : mg "quotient" = some (.ref (He.ga K "quotient")) := by
  obtain ⟨h, X, G⟩ := T.kin
  exact He.glo_ok X G (T.fa 21)
theorem Txt.g_values_by_words (T : Txt K mg) : mg "values_by_words" = some (.ref (He.ga K "values_by_words")) := by
  obtain ⟨h, X, G⟩ := T.kin
  exact He.glo_ok X G (T.fa 22)
theorem Txt.g_first_broken (T : Txt K mg) : mg "first_broken" = some (.ref (He.ga K "first_broken")) := by
  obtain ⟨h, X, G⟩ := T.kin
  exact He.glo_ok X G (T.fa 23)
theorem Txt.g_check_search (T : Txt K mg) : mg "check_search" = some (.ref (He.ga K "check_search")) := by
  obtain ⟨h, X, G⟩ := T.kin
  exact He.glo_ok X G (T.fa 24)
theorem Txt.g_all_rows (T : Txt K mg) : mg "all_rows" = some (.ref (He.ga K "all_rows")) := by
  obtain ⟨h, X, G⟩ := T.kin
  exact He.glo_ok X G (T.fa 25)
theorem Txt.g_isomorphism (T : Txt K mg) : mg "isomorphism" = some (.ref (He.ga K "isomorphism")) := by
  obtain ⟨h, X, G⟩ := T.kin
  exact He.glo_ok X G (T.fa 26)
theorem Txt.g_walked (T : Txt K mg) : mg "walked" = some (.ref (He.ga K "walked")) := by
  obtain ⟨h, X, G⟩ := T.kin
  exact He.glo_ok X G (T.fa 27)
theorem Txt.g_submonoid (T : Txt K mg) : mg "submonoid" = some (.ref (He.ga K "submonoid")) := by
  obtain ⟨h, X, G⟩ := T.kin
  exact He.glo_ok X G (T.fa 28)
theorem Txt.g_generated (T : Txt K mg) : mg "generated" = some (.ref (He.ga K "generated")) := by
  obtain ⟨h, X, G⟩ := T.kin
  exact He.glo_ok X G (T.fa 29)
theorem Txt.g_is_well_led (T : Txt K mg) : mg "is_well_led" = some (.ref (He.ga K "is_well_led")) := by
  obtain ⟨h, X, G⟩ := T.kin
  exact He.glo_ok X G (T.fa 30)
theorem Txt.g_division (T : Txt K mg) : mg "division" = some (.ref (He.ga K "division")) := by
  obtain ⟨h, X, G⟩ := T.kin
  exact He.glo_ok X G (T.fa 31)
theorem Txt.g_pair_behind (T : Txt K mg) : mg "pair_behind" = some (.ref (He.ga K "pair_behind")) := by
  obtain ⟨h, X, G⟩ := T.kin
  exact He.glo_ok X G (T.fa 32)
theorem Txt.g_direct (T : Txt K mg) : mg "direct" = some (.ref (He.ga K "direct")) := by
  obtain ⟨h, X, G⟩ := T.kin
  exact He.glo_ok X G (T.fa 33)
theorem Txt.g_law_cell_at (T : Txt K mg) : mg "_law_cell_at" = some (.ref (He.ga K "_law_cell_at")) := by
  obtain ⟨h, X, G⟩ := T.kin
  exact He.glo_ok X G (T.fa 34)
theorem Txt.g_law_mixed (T : Txt K mg) : mg "_law_mixed" = some (.ref (He.ga K "_law_mixed")) := by
  obtain ⟨h, X, G⟩ := T.kin
  exact He.glo_ok X G (T.fa 35)
theorem Txt.g_law_source (T : Txt K mg) : mg "_law_source" = some (.ref (He.ga K "_law_source")) := by
  obtain ⟨h, X, G⟩ := T.kin
  exact He.glo_ok X G (T.fa 36)
theorem Txt.g_law_next (T : Txt K mg) : mg "_law_next" = some (.ref (He.ga K "_law_next")) := by
  obtain ⟨h, X, G⟩ := T.kin
  exact He.glo_ok X G (T.fa 37)
theorem Txt.g_law_listed (T : Txt K mg) : mg "_law_listed" = some (.ref (He.ga K "_law_listed")) := by
  obtain ⟨h, X, G⟩ := T.kin
  exact He.glo_ok X G (T.fa 38)
theorem Txt.g_law_drawn (T : Txt K mg) : mg "_law_drawn" = some (.ref (He.ga K "_law_drawn")) := by
  obtain ⟨h, X, G⟩ := T.kin
  exact He.glo_ok X G (T.fa 39)
theorem Txt.g_law_products (T : Txt K mg) : mg "_law_products" = some (.ref (He.ga K "_law_products")) := by
  obtain ⟨h, X, G⟩ := T.kin
  exact He.glo_ok X G (T.fa 40)
theorem Txt.g_law_rows (T : Txt K mg) : mg "_law_rows" = some (.ref (He.ga K "_law_rows")) := by
  obtain ⟨h, X, G⟩ := T.kin
  exact He.glo_ok X G (T.fa 41)
theorem Txt.g_law_leads (T : Txt K mg) : mg "_law_leads" = some (.ref (He.ga K "_law_leads")) := by
  obtain ⟨h, X, G⟩ := T.kin
  exact He.glo_ok X G (T.fa 42)
theorem Txt.g_law_submonoids (T : Txt K mg) : mg "_law_submonoids" = some (.ref (He.ga K "_law_submonoids")) := by
  obtain ⟨h, X, G⟩ := T.kin
  exact He.glo_ok X G (T.fa 43)
theorem Txt.g_law_by_parts (T : Txt K mg) : mg "_law_by_parts" = some (.ref (He.ga K "_law_by_parts")) := by
  obtain ⟨h, X, G⟩ := T.kin
  exact He.glo_ok X G (T.fa 44)
theorem Txt.g_law_congruences (T : Txt K mg) : mg "_law_congruences" = some (.ref (He.ga K "_law_congruences")) := by
  obtain ⟨h, X, G⟩ := T.kin
  exact He.glo_ok X G (T.fa 45)
theorem Txt.g_law_right (T : Txt K mg) : mg "_law_right" = some (.ref (He.ga K "_law_right")) := by
  obtain ⟨h, X, G⟩ := T.kin
  exact He.glo_ok X G (T.fa 46)
theorem Txt.g_law (T : Txt K mg) : mg "law" = some (.ref (He.ga K "law")) := by
  obtain ⟨h, X, G⟩ := T.kin
  exact He.glo_ok X G (T.fa 47)
theorem Txt.g_Monoid (T : Txt K mg) : mg "Monoid" = some (.ref (He.ga K "Monoid")) := by
  obtain ⟨h, X, G⟩ := T.kin
  exact He.glo_ok X G (T.fa 48)
theorem Txt.g_TooMany (T : Txt K mg) : mg "TooMany" = some (.ref (He.ga K "TooMany")) := by
  obtain ⟨h, X, G⟩ := T.kin
  exact He.glo_ok X G (T.fa 49)
theorem Txt.n_isinstance (T : Txt K mg) : mg "isinstance" = none := by
  obtain ⟨h, X, G⟩ := T.kin
  exact He.free_ok X G (T.fa 50)
theorem Txt.n_int (T : Txt K mg) : mg "int" = none := by
  obtain ⟨h, X, G⟩ := T.kin
  exact He.free_ok X G (T.fa 51)
theorem Txt.n_bool (T : Txt K mg) : mg "bool" = none := by
  obtain ⟨h, X, G⟩ := T.kin
  exact He.free_ok X G (T.fa 52)
theorem Txt.n_list (T : Txt K mg) : mg "list" = none := by
  obtain ⟨h, X, G⟩ := T.kin
  exact He.free_ok X G (T.fa 53)
theorem Txt.n_tuple (T : Txt K mg) : mg "tuple" = none := by
  obtain ⟨h, X, G⟩ := T.kin
  exact He.free_ok X G (T.fa 54)
theorem Txt.n_len (T : Txt K mg) : mg "len" = none := by
  obtain ⟨h, X, G⟩ := T.kin
  exact He.free_ok X G (T.fa 55)
theorem Txt.n_enumerate (T : Txt K mg) : mg "enumerate" = none := by
  obtain ⟨h, X, G⟩ := T.kin
  exact He.free_ok X G (T.fa 56)
theorem Txt.n_all (T : Txt K mg) : mg "all" = none := by
  obtain ⟨h, X, G⟩ := T.kin
  exact He.free_ok X G (T.fa 57)
theorem Txt.n_range (T : Txt K mg) : mg "range" = none := by
  obtain ⟨h, X, G⟩ := T.kin
  exact He.free_ok X G (T.fa 58)
theorem Txt.n_set (T : Txt K mg) : mg "set" = none := by
  obtain ⟨h, X, G⟩ := T.kin
  exact He.free_ok X G (T.fa 59)
theorem Txt.n_sorted (T : Txt K mg) : mg "sorted" = none := by
  obtain ⟨h, X, G⟩ := T.kin
  exact He.free_ok X G (T.fa 60)
theorem Txt.n_max (T : Txt K mg) : mg "max" = none := by
  obtain ⟨h, X, G⟩ := T.kin
  exact He.free_ok X G (T.fa 61)
theorem Txt.n_min (T : Txt K mg) : mg "min" = none := by
  obtain ⟨h, X, G⟩ := T.kin
  exact He.free_ok X G (T.fa 62)
theorem Txt.n_zip (T : Txt K mg) : mg "zip" = none := by
  obtain ⟨h, X, G⟩ := T.kin
  exact He.free_ok X G (T.fa 63)
theorem Txt.i_MOST_ELEMENTS_monoids (T : Txt K mg) : ∃ t, mg "MOST_ELEMENTS_monoids" = some (.int 2000 t) := by
  obtain ⟨h, X, G⟩ := T.kin
  exact He.int_ok X G (T.fa 64)
theorem Txt.i_MOST_LETTERS_monoids (T : Txt K mg) : ∃ t, mg "MOST_LETTERS_monoids" = some (.int 6 t) := by
  obtain ⟨h, X, G⟩ := T.kin
  exact He.int_ok X G (T.fa 65)
theorem Txt.i_MOST_LATTICE (T : Txt K mg) : ∃ t, mg "MOST_LATTICE" = some (.int 30 t) := by
  obtain ⟨h, X, G⟩ := T.kin
  exact He.int_ok X G (T.fa 66)
theorem Txt.i_MOST_CONGRUENCES (T : Txt K mg) : ∃ t, mg "MOST_CONGRUENCES" = some (.int 100 t) := by
  obtain ⟨h, X, G⟩ := T.kin
  exact He.int_ok X G (T.fa 67)
theorem Txt.i_MOST_SEARCHED_morphisms (T : Txt K mg) : ∃ t, mg "MOST_SEARCHED_morphisms" = some (.int 500000 t) := by
  obtain ⟨h, X, G⟩ := T.kin
  exact He.int_ok X G (T.fa 68)
theorem Txt.i_MOST_LETTERS_parts (T : Txt K mg) : ∃ t, mg "MOST_LETTERS_parts" = some (.int 6 t) := by
  obtain ⟨h, X, G⟩ := T.kin
  exact He.int_ok X G (T.fa 69)
theorem Txt.i_MOST_ELEMENTS_parts (T : Txt K mg) : ∃ t, mg "MOST_ELEMENTS_parts" = some (.int 2000 t) := by
  obtain ⟨h, X, G⟩ := T.kin
  exact He.int_ok X G (T.fa 70)
theorem Txt.i_MOST_SEARCHED_parts (T : Txt K mg) : ∃ t, mg "MOST_SEARCHED_parts" = some (.int 500000 t) := by
  obtain ⟨h, X, G⟩ := T.kin
  exact He.int_ok X G (T.fa 71)
theorem Txt.s_LETTERS (T : Txt K mg) : ∃ t, mg "LETTERS" = some (.str "abcdef" t) := by
  obtain ⟨h, X, G⟩ := T.kin
  exact He.str_ok X G (T.fa 72)
abbrev CM (K : PySem.W.Frag) : Addr := He.ga K "Monoid"
theorem Txt.cl (T : Txt K mg) : Cls K (CM K) := He.cls_ok (T.fa 73)
theorem Txt.no_right (T : Txt K mg) : NoAttr K (CM K) "right" := He.noat_ok (T.fa 74)
theorem Txt.no_tree (T : Txt K mg) : NoAttr K (CM K) "tree" := He.noat_ok (T.fa 75)
theorem Txt.no_lefts (T : Txt K mg) : NoAttr K (CM K) "lefts" := He.noat_ok (T.fa 76)
theorem Txt.no_memory (T : Txt K mg) : NoAttr K (CM K) "memory" := He.noat_ok (T.fa 77)
theorem Txt.m_check_number (T : Txt K mg) : Meth K (CM K) "check_number" (He.ma K (CM K) "check_number") := He.meth_ok (T.fa 78)
theorem Txt.m_size (T : Txt K mg) : Meth K (CM K) "size" (He.ma K (CM K) "size") := He.meth_ok (T.fa 79)
theorem Txt.m_all_words (T : Txt K mg) : Meth K (CM K) "all_words" (He.ma K (CM K) "all_words") := He.meth_ok (T.fa 80)
theorem Txt.m_words (T : Txt K mg) : Meth K (CM K) "words" (He.ma K (CM K) "words") := He.meth_ok (T.fa 81)
theorem Txt.m_left (T : Txt K mg) : Meth K (CM K) "left" (He.ma K (CM K) "left") := He.meth_ok (T.fa 82)
theorem Txt.m_path_of (T : Txt K mg) : Meth K (CM K) "path_of" (He.ma K (CM K) "path_of") := He.meth_ok (T.fa 83)
theorem Txt.m_product (T : Txt K mg) : Meth K (CM K) "product" (He.ma K (CM K) "product") := He.meth_ok (T.fa 84)
theorem Txt.m_times (T : Txt K mg) : Meth K (CM K) "times" (He.ma K (CM K) "times") := He.meth_ok (T.fa 85)
theorem Txt.mkr (T : Txt K mg) : Mk K (CM K) (He.ma K (CM K) "__init__") := He.mkr_ok (T.fa 86)
theorem Txt.insC (T : Txt K mg) : C8.InsC K (CM K) := by
  obtain ⟨h1, h2⟩ := He.ba T.ex
  obtain ⟨a1, h1⟩ := He.ba h1
  obtain ⟨a2, h1⟩ := He.ba h1
  obtain ⟨a3, h1⟩ := He.ba h1
  obtain ⟨a4, a5⟩ := He.ba h1
  exact ⟨T.cl, He.eqO_ok a1, He.eqO_ok a2, of_decide_eq_true a3, of_decide_eq_true a4, of_decide_eq_true a5⟩
theorem Txt.tabs (T : Txt K mg) : (tfL.map fun p => (He.cT K p).2).Nodup := of_decide_eq_true (He.ba T.ex).2
end
end K95
set_option Elab.async false
set_option linter.all false
set_option maxRecDepth 100000
set_option maxHeartbeats 4000000
set_option autoImplicit false
namespace K95
open PySem PySem.Spec PyProof.Rows L2
/-- a def that may be called by its name -/
def Go (P : Program) (w : World) (K : PySem.W.Frag) (mg : Str → Option Value) (base : Heap) (x : Str) (ps : List Str) (k : Nat) (sp : Sp) : Prop :=
  ∃ f fd, mg x = some (.ref f) ∧ PySem.W.keepIn K (.ref f) = true ∧ Binds K fd ps [] ∧ FnOk P w K mg base CX0 k f fd ps sp
/-- a method of Monoid -/
def GoM (P : Program) (w : World) (K : PySem.W.Frag) (mg : Str → Option Value) (base : Heap) (x : Str) (ps : List Str) (k : Nat) (sp : Sp) : Prop :=
  ∃ fd, Binds K fd ps [] ∧ FnOk P w K mg base CX0 k (He.ma K (CM K) x) fd ps sp
theorem okN {P : Program} {w : World} {K : PySem.W.Frag} {mg : Str → Option Value} {base : Heap} {x qual : Str} {params : Arguments} {body : List Stmt} {scope : Scope} {dvs : List V} {kws : List (Str × V)} {f : Addr} {fd : FuncData} {N ps : List Str} {k : Nat} {sp : Sp}
    (F : FunD K x qual params body scope dvs kws f fd) (S : FnScope N ps scope) (len : ∀ vs H Q E, sp vs H Q E → vs.length = ps.length)
    (hbody : ∀ (cdv : Value) (A : Around) (outer : List Env) (s : Shared) (H : Hp) (vs : List V) (Q : VK) (E : XK), Room k (A.deeper (envOfC qual scope s.heap.objs.size f cdv)) → sp vs H Q E →
      ∃ t, PSs (cxOf CX0 P w K mg base N qual scope f cdv A outer s H E).nox body t ∧ t { nx := fun _ H' => Q .non H', rt := Q } (L2.start N vs) H) : FnOk P w K mg base CX0 (k + 1) f fd ps sp :=
  F.ok S len fun cdv A outer s H vs Q E hr hsp => by
    obtain ⟨t, h, q⟩ := hbody cdv A outer s H vs Q E hr hsp
    exact ⟨t, PSs.nox h, q⟩
theorem iteT {A B : Prop} {b : Bool} (h : b = true) (a : A) : if b = true then A else B := by rw [if_pos h]; exact a
theorem iteF {A B : Prop} {b : Bool} (h : b = false) (a : B) : if b = true then A else B := by subst h; exact a
theorem ite2 {A B : Prop} {b : Bool} (h1 : b = true → A) (h2 : b = false → B) : if b = true then A else B := by
  cases b with
  | true => exact h1 rfl
  | false => exact h2 rfl
theorem hu9_of {A : Around} {k : Nat} (hr : Room k A) : A.units + 9 < cLine := by have := hr.un; omega
theorem hu65_of {A : Around} {k : Nat} (hr : Room k A) : A.units + 65 < cLine := by have := hr.un; omega
/-- sequences: a tuple or a list -/
def SeqO (H : Hp) (v : V) (xs : List V) : Prop := ∃ a, v = .ref a ∧ (H a = some (.tup xs) ∨ H a = some (.lst xs))
/-- a row of numbers, in a tuple or a list -/
def RowO (H : Hp) (v : V) (l : List Nat) : Prop := SeqO H v (nvs l)
/-- a table, in tuples or lists -/
def TabO (H : Hp) (v : V) (T : Tab) : Prop := ∃ vs, SeqO H v vs ∧ Paired (RowO H) vs T
section
variable {P : Program} {w : World} {tb : Tbs} {C : Addr} {H H1 H2 H' : Hp}
theorem SeqO.ext (e : Ext P w tb C H H') {v : V} {xs : List V} (h : SeqO H v xs) : SeqO H' v xs := by
  obtain ⟨a, r, h | h⟩ := h
  · exact ⟨a, r, .inl (e.tup h)⟩
  · exact ⟨a, r, .inr (e.lst h)⟩
/-- a tuple or a list at a -/
def SeqA (H : Hp) (a : Addr) (xs : List V) : Prop := H a = some (.tup xs) ∨ H a = some (.lst xs)
theorem SeqA.ext (e : Ext P w tb C H H') {a : Addr} {xs : List V} (h : SeqA H a xs) : SeqA H' a xs := h.elim (fun z => .inl (e.tup z)) fun z => .inr (e.lst z)
theorem SeqA.same (e : Ext P w tb C H H1) (e' : Ext P w tb C H H2) {a : Addr} {xs : List V} (h : SeqA H a xs) : H2 a = H1 a := h.elim (fun z => by rw [e.tup z, e'.tup z]) fun z => by rw [e.lst z, e'.lst z]
theorem SeqA.sq {K : PySem.W.Frag} {a : Addr} {xs : List V} (h : SeqA H a xs) : SqL K H a xs ∨ SqT K H a xs := h.elim (fun z => .inr (SqT.of z)) fun z => .inl (SqL.of z)
theorem IntTup.ext (e : Ext P w tb C H H') {v : V} {l : List Nat} (h : IntTup H v l) : IntTup H' v l := h.mono fun _ _ z => e.tup z
theorem TabT.ext (e : Ext P w tb C H H') {a : Addr} {T : Tab} (h : TabT H a T) : TabT H' a T := h.mono fun _ _ z => e.tup z
theorem TabO.ext (e : Ext P w tb C H H') {v : V} {T : Tab} (h : TabO H v T) : TabO H' v T := by
  obtain ⟨vs, h1, h2⟩ := h
  exact ⟨vs, h1.ext e, Paired.mapP h2 fun _ _ z => SeqO.ext e z⟩
theorem TreeL.ext (e : Ext P w tb C H H') {a : Addr} {T : Tab} (h : TreeL H a T) : TreeL H' a T := by
  obtain ⟨vs, h1, h2⟩ := h
  exact ⟨vs, e.lst h1, Paired.mapP h2 fun _ _ z => z.mono fun _ _ y => e.tup y⟩
theorem MonB.ext (e : Ext P w tb C H H') {m dx r t l d : Addr} {T : Tab} (h : MonB C H m dx r t l d T) : MonB C H' m dx r t l d T := h.mono e.keep
theorem nvs_get {l : List Nat} {i : Nat} : (nvs l)[i]? = (l[i]?).map nv := by unfold nvs; rw [List.getElem?_map]
theorem nvs_len {l : List Nat} : (nvs l).length = l.length := by unfold nvs; rw [List.length_map]
theorem paired_get {α β : Type} {R : α → β → Prop} {xs : List α} {ys : List β} (h : Paired R xs ys) {i : Nat} {y : β} (e : ys[i]? = some y) : ∃ x, xs[i]? = some x ∧ R x y := by
  induction h generalizing i with
  | nil => simp at e
  | cons r t ih =>
    cases i with
    | zero => simp at e; subst e; exact ⟨_, rfl, r⟩
    | succ i => exact ih (by simpa using e)
theorem paired_get' {α β : Type} {R : α → β → Prop} {xs : List α} {ys : List β} (h : Paired R xs ys) {i : Nat} {x : α} (e : xs[i]? = some x) : ∃ y, ys[i]? = some y ∧ R x y := by
  induction h generalizing i with
  | nil => simp at e
  | cons r t ih =>
    cases i with
    | zero => simp at e; subst e; exact ⟨_, rfl, r⟩
    | succ i => exact ih (by simpa using e)
theorem paired_len {α β : Type} {R : α → β → Prop} {xs : List α} {ys : List β} (h : Paired R xs ys) : xs.length = ys.length := by
  induction h with
  | nil => rfl
  | cons r t ih => simp [ih]
theorem paired_app {α β : Type} {R : α → β → Prop} {xs xs' : List α} {ys ys' : List β} (h : Paired R xs ys) (h' : Paired R xs' ys') : Paired R (xs ++ xs') (ys ++ ys') := by
  induction h with
  | nil => exact h'
  | cons r t ih => exact .cons r ih
theorem paired_take {α β : Type} {R : α → β → Prop} {xs : List α} {ys : List β} (h : Paired R xs ys) (i : Nat) : Paired R (xs.take i) (ys.take i) := by
  induction h generalizing i with
  | nil => simpa using Paired.nil
  | cons r t ih =>
    cases i with
    | zero => simpa using Paired.nil
    | succ i => simpa using Paired.cons r (ih i)
theorem atI_nv {xs : List V} {i : Nat} {v : V} (h : xs[i]? = some v) : atI xs (i : Int) = some v := by
  rw [atI_nat]
  exact h
end
end K95
set_option Elab.async false
set_option linter.all false
set_option maxRecDepth 100000
set_option maxHeartbeats 4000000
set_option autoImplicit false
namespace K95
open PySem PySem.Spec PyProof.Rows L2
/-- what a for asks of its walk -/
abbrev ForW (g : TG) (tb : TS) (D : Ends) (σ : L2.St) (J : It) (H : Hp) : Prop := ∃ W : Nat → Nat → L2.St → Hp → Prop, (∃ m, W 0 m σ H) ∧ ∀ i m σ H, W i m σ H →
  (J.stop i H ∧ D.nx σ H) ∨ (J.go i H ∧ ∃ N : L2.St → Hp → Prop, (∀ σ' H', N σ' H' → ∃ m', m' < m ∧ W (i + 1) m' σ' H') ∧ ∀ x H', J.yld i H x H' → g x σ H' fun σ2 H2 => tb { D with nx := N, ct := N, bk := D.nx } σ2 H2)
abbrev g2 (K : PySem.W.Frag) (ki kj : Nat) : TG := gTup K 2 (gCons (gName ki) (gCons (gName kj) gNil))
section
variable {J : It} {n : Nat} {G : Hp → Prop} {K : PySem.W.Frag} {tb : TS} {D : Ends} {σ : L2.St} {H : Hp} {ki kj : Nat}
/-- a for over pairs: enumerate, zip -/
theorem for_pair {fx fy : Nat → Option V} (w : Walk J n G (YPair fx fy)) (Pv : Nat → L2.St → Hp → Prop) (h0 : Pv 0 σ H) (hG : ∀ i σ H, i ≤ n → Pv i σ H → G H)
    (hs : ∀ t σ H T x y, t < n → Pv t σ H → H T = none → fx t = some x → fy t = some y → tb { D with nx := Pv (t + 1), ct := Pv (t + 1), bk := D.nx } ((σ.set ki (some x)).set kj (some y)) (upd H T (.tup [x, y])))
    (hd : ∀ σ H, Pv n σ H → D.nx σ H) : ForW (g2 K ki kj) tb D σ J H := by
  refine for_it w Pv h0 hG (fun i x σ H H' hi p y => ?_) hd
  obtain ⟨T, x1, x2, rfl, hT, rfl, e1, e2⟩ := y
  exact ⟨T, [x1, x2], rfl, SqT.of upd_same, rfl, x1, [x2], rfl, x2, [], rfl, rfl, hs i σ H T x1 x2 hi p hT e1 e2⟩
/-- for i, x in enumerate(xs), xs a list or a tuple -/
theorem en_for {a : Addr} {xs : List V} (hv : H a = some (.tup xs) ∨ H a = some (.lst xs)) (Pv : Nat → L2.St → Hp → Prop) (h0 : Pv 0 σ H) (hG : ∀ i σ H', Pv i σ H' → H' a = H a)
    (hs : ∀ t σ H T x, xs[t]? = some x → Pv t σ H → H T = none → tb { D with nx := Pv (t + 1), ct := Pv (t + 1), bk := D.nx } ((σ.set ki (some (nv t))).set kj (some x)) (upd H T (.tup [nv t, x])))
    (hd : ∀ σ H, Pv xs.length σ H → D.nx σ H) : ∃ b ys, [V.ref a] = [V.ref b] ∧ ((SqL K H b ys ∧ ForW (g2 K ki kj) tb D σ (Ite K b) H) ∨ (SqT K H b ys ∧ ForW (g2 K ki kj) tb D σ (IteT K b) H)) := by
  refine ⟨a, xs, rfl, ?_⟩
  rcases hv with hv | hv
  · refine .inr ⟨SqT.of hv, for_pair (walk_enumT (xs := xs)) Pv h0 (fun i σ H' _ p => SqT.of (by rw [hG i σ H' p]; exact hv)) (fun t σ H T x y ht p hT ex ey => ?_) hd⟩
    cases ex
    exact hs t σ H T y ey p hT
  · refine .inl ⟨SqL.of hv, for_pair (walk_enum (xs := xs)) Pv h0 (fun i σ H' _ p => SqL.of (by rw [hG i σ H' p]; exact hv)) (fun t σ H T x y ht p hT ex ey => ?_) hd⟩
    cases ex
    exact hs t σ H T y ey p hT
end
/-- what a comprehension asks -/
abbrev LcW (g : TG) (tt : TT) (te : TE) (vs : List Nat) (σ : L2.St) (J : It) (H1 : Hp) (D : Addr) (Qd : Hp → Prop) : Prop := ∃ W : Nat → Nat → Hp → Prop, (∃ m, W 0 m (upd H1 D (.lst []))) ∧ ∀ i m H, W i m H →
  (J.stop i H ∧ Qd H) ∨ (J.go i H ∧ ∃ Nx : Hp → Prop, (∀ H', Nx H' → ∃ m', m' < m ∧ W (i + 1) m' H') ∧ ∀ x H', J.yld i H x H' → g x (wipe σ vs) H' fun σ2 H2 => wipe σ2 vs = wipe σ vs ∧ tt σ2 H2 fun b H3 =>
    if b = true then te σ2 H3 fun y H4 => ∃ acc, H4 D = some (.lst acc) ∧ acc.length < sizeLine ∧ Nx (upd H4 D (.lst (acc ++ [y]))) else Nx H3)
/-- all but D is kept -/
def Kp (D : Addr) (H H' : Hp) : Prop := ∀ a o, a ≠ D → H a = some o → plainO o = true → H' a = some o
/-- what holds of an item stays, whatever is done to the list D -/
def Stab (D : Addr) (R : Nat → V → Hp → Prop) : Prop := ∀ i y H H' acc, H D = some (.lst acc) → Kp D H H' → R i y H → R i y H'
theorem stab_val {D : Addr} (f : Nat → V) : Stab D fun i y _ => y = f i := fun _ _ _ _ _ _ _ h => h
theorem stab_tup {D : Addr} (f : Nat → List Nat) : Stab D fun i y H => IntTup H y (f i) := fun i y H H' acc hD k h => by
  obtain ⟨a, e, h⟩ := h
  exact ⟨a, e, k a _ (ne_of h hD fun z => by cases z) h rfl⟩
section
variable {P : Program} {w : World} {tb : Tbs} {C : Addr}
theorem Kp.of {D : Addr} {H H' : Hp} (e : Ext P w tb C H H') : Kp D H H' := fun a o _ h q => e.keep a o h q
theorem Kp.upd {D : Addr} {H : Hp} {o : HO} : Kp D H (upd H D o) := fun a u n h _ => by rw [upd_ne n]; exact h
/-- [e for x in xs], each e by its place; Iv: what else stays -/
theorem lc_genI {J : It} {n : Nat} {G : Hp → Prop} {Y : Nat → Hp → V → Hp → Prop} {R0 : Nat → V → Prop} {te : TE} {k : Nat} {vs : List Nat} {σ : L2.St} {H1 : Hp} {D : Addr} {Qd : Hp → Prop} (wk : Walk J n G Y) (hy : ∀ i H x H', Y i H x H' → H' = H ∧ R0 i x)
    (hD : H1 D = none) (hG : ∀ H', Ext P w tb C H1 H' → G H') (Rl : Nat → V → Hp → Prop) (st : Stab D Rl) (Iv : Hp → Prop) (hI0 : Iv H1) (hI : ∀ H acc, Iv H → Iv (upd H D (.lst acc))) (hn : n ≤ 10000) (hvs : ∀ x, wipe ((wipe σ vs).set k (some x)) vs = wipe σ vs)
    (hs : ∀ i x H acc, i < n → R0 i x → Ext P w tb C H1 H → Iv H → H D = some (.lst acc) → ∀ Qk : V → Hp → Prop, (∀ y H4, Ext P w tb C H H4 → Iv H4 → Rl i y H4 → Qk y H4) → te ((wipe σ vs).set k (some x)) H Qk)
    (hd : ∀ H ys, Ext P w tb C H1 H → Iv H → H D = some (.lst ys) → ys.length = n → (∀ i y, ys[i]? = some y → Rl i y H) → Qd H) : LcW (gName k) tYes te vs σ J H1 D Qd := by
  have nD : Nw H1 D := .of hD
  refine lc_it wk (fun i H => Ext P w tb C H1 H ∧ Iv H ∧ ∃ ys, H D = some (.lst ys) ∧ ys.length = i ∧ ∀ j y, ys[j]? = some y → Rl j y H) ⟨Ext.new hD, hI _ _ hI0, [], upd_same, rfl, fun j y e => by simp at e⟩ (fun i H _ p => hG H p.1)
    (fun i x H H' hi p y => ?_) fun H ⟨e, v, ys, h1, h2, h3⟩ => hd H ys e v h1 h2 h3
  obtain ⟨rfl, r0⟩ := hy i H x H' y
  obtain ⟨e, iv, ys, h1, h2, h3⟩ := p
  refine ⟨hvs x, ?_⟩
  refine hs i x H' ys hi r0 e iv h1 _ fun v H4 e4 i4 r4 => ?_
  have h4 := e4.lst h1
  refine ⟨ys, h4, by rw [h2]; exact Nat.lt_of_lt_of_le (Nat.lt_of_lt_of_le hi hn) (by decide), (e.trans e4).mut nD h4 rfl, hI _ _ i4, ys ++ [v], upd_same, by rw [List.length_append, h2]; rfl, fun j z ez => ?_⟩
  by_cases hj : j < ys.length
  · rw [List.getElem?_append_left hj] at ez
    exact st j z _ _ _ h4 Kp.upd (st j z _ _ _ h1 (.of e4) (h3 j z ez))
  · rw [List.getElem?_append_right (Nat.le_of_not_lt hj)] at ez
    have e0 : j - ys.length = 0 := by
      have := (List.getElem?_eq_some_iff.mp ez).1
      simp at this
      omega
    rw [e0] at ez
    cases ez
    have ej : j = i := by omega
    subst ej
    exact st j v _ _ _ h4 Kp.upd r4
theorem lc_gen {J : It} {n : Nat} {G : Hp → Prop} {Y : Nat → Hp → V → Hp → Prop} {R0 : Nat → V → Prop} {te : TE} {k : Nat} {vs : List Nat} {σ : L2.St} {H1 : Hp} {D : Addr} {Qd : Hp → Prop} (wk : Walk J n G Y) (hy : ∀ i H x H', Y i H x H' → H' = H ∧ R0 i x)
    (hD : H1 D = none) (hG : ∀ H', Ext P w tb C H1 H' → G H') (Rl : Nat → V → Hp → Prop) (st : Stab D Rl) (hn : n ≤ 10000) (hvs : ∀ x, wipe ((wipe σ vs).set k (some x)) vs = wipe σ vs)
    (hs : ∀ i x H acc, i < n → R0 i x → Ext P w tb C H1 H → H D = some (.lst acc) → ∀ Qk : V → Hp → Prop, (∀ y H4, Ext P w tb C H H4 → Rl i y H4 → Qk y H4) → te ((wipe σ vs).set k (some x)) H Qk)
    (hd : ∀ H ys, Ext P w tb C H1 H → H D = some (.lst ys) → ys.length = n → (∀ i y, ys[i]? = some y → Rl i y H) → Qd H) : LcW (gName k) tYes te vs σ J H1 D Qd :=
  lc_genI wk hy hD hG Rl st (fun _ => True) trivial (fun _ _ _ => trivial) hn hvs (fun i x H acc hi r e _ h Qk q => hs i x H acc hi r e h Qk fun y H4 e4 r4 => q y H4 e4 trivial r4) fun H ys e _ h hl hr => hd H ys e h hl hr
end
end K95
set_option Elab.async false
set_option linter.all false
set_option maxRecDepth 100000
set_option maxHeartbeats 4000000
set_option autoImplicit false
namespace K95
open PySem PySem.Spec PyProof.Rows L2
/-- the block's own letters out of a reading -/
theorem pe_c {X : Cx} {e : Expr} {t t' : TE} (h : PE X e t) (he : t = t' := by first | rfl | (dsimp only [Cx.blk] <;> rfl)) : PE X e t' := he ▸ h
theorem pt_c {X : Cx} {e : Expr} {t t' : TT} (h : PT X e t) (he : t = t' := by first | rfl | (dsimp only [Cx.blk] <;> rfl)) : PT X e t' := he ▸ h
def iOr (w1 w2 : TI) : TI := fun σ H R => w1 σ H R ∨ w2 σ H R
theorem pi_or {X : Cx} {tg iter : Expr} {w1 w2 : TI} (h1 : PI X tg iter w1) (h2 : PI X tg iter w2) : PI X tg iter (iOr w1 w2) :=
  ⟨fun pins s σ H R I h => h.elim (h1.run pins s σ H R I) (h2.run pins s σ H R I)⟩
theorem rIx_seq {K : PySem.W.Frag} {H : Hp} {Q : VK} {a : Addr} {xs : List V} {i : Nat} {v : V} (h : SeqA H a xs) (hx : xs[i]? = some v) (q : Q v H) : rIx K (.ref a) (.int (i : Nat)) H Q := by
  rcases h with h | h
  · exact .inr (.inl ⟨_, _, _, _, rfl, rfl, SqT.of h, atI_nat hx, q⟩)
  · exact .inl ⟨_, _, _, _, rfl, rfl, SqL.of h, atI_nat hx, q⟩
theorem list_same {α : Type} {ys : List α} {n : Nat} {v : α} (hl : ys.length = n) (h : ∀ (i : Nat) y, ys[i]? = some y → y = v) : ys = List.replicate n v := by
  refine List.ext_getElem? fun i => ?_
  rw [List.getElem?_replicate]
  by_cases hi : i < n
  · rw [if_pos hi]
    have hi' : i < ys.length := by omega
    rw [List.getElem?_eq_getElem hi']
    exact congrArg some (h i _ (List.getElem?_eq_getElem hi'))
  · rw [if_neg hi, List.getElem?_eq_none]
    omega
theorem list_map {α β : Type} {ys : List β} {xs : List α} {f : α → β} (hl : ys.length = xs.length) (h : ∀ (i : Nat) y x, ys[i]? = some y → xs[i]? = some x → y = f x) : ys = xs.map f := by
  refine List.ext_getElem? fun i => ?_
  rw [List.getElem?_map]
  by_cases hi : i < xs.length
  · have hi' : i < ys.length := by omega
    rw [List.getElem?_eq_getElem hi', List.getElem?_eq_getElem hi]
    exact congrArg some (h i _ _ (List.getElem?_eq_getElem hi') (List.getElem?_eq_getElem hi))
  · rw [List.getElem?_eq_none (by omega), List.getElem?_eq_none (by omega)]
    rfl
theorem paired_of {α β : Type} {R : α → β → Prop} : ∀ {ys : List α} {xs : List β}, ys.length = xs.length → (∀ (i : Nat) y x, ys[i]? = some y → xs[i]? = some x → R y x) → Paired R ys xs
  | [], [], _, _ => .nil
  | y :: ys, x :: xs, hl, h => .cons (h 0 y x rfl rfl) (paired_of (by simpa using hl) fun i a b ha hb => h (i + 1) a b (by simpa using ha) (by simpa using hb))
  | [], _ :: _, hl, _ => by simp at hl
  | _ :: _, [], hl, _ => by simp at hl
theorem scan_step {i met n : Nat} {row : List Nat} {r : Tab} (h : scan i met (row :: r) = some n) : i < met ∧ ∃ m, scanRow met row = some m ∧ scan (i + 1) m r = some n := by
  unfold scan at h
  split at h
  · cases h
  · rename_i hi
    split at h
    · rename_i m hm
      exact ⟨by omega, m, hm, h⟩
    · cases h
theorem scanRow_step {met m o : Nat} {r : List Nat} (h : scanRow met (o :: r) = some m) : o ≤ met ∧ scanRow (if o = met then met + 1 else met) r = some m := by
  unfold scanRow at h
  split at h
  · cases h
  · exact ⟨by omega, h⟩
theorem drop_get {α : Type} {l : List α} {i : Nat} {x : α} (h : l[i]? = some x) : l.drop i = x :: l.drop (i + 1) := by
  obtain ⟨hi, e⟩ := List.getElem?_eq_some_iff.mp h
  rw [List.drop_eq_getElem_cons hi, e]
section
variable {P : Program} {w : World} {tb : Tbs} {C : Addr} {K : PySem.W.Frag}
/-- [e for x in xs], xs a list or a tuple -/
theorem lc_seq {te : TE} {k j : Nat} {vs : List Nat} {σ : L2.St} {H1 : Hp} {Q : Addr → Hp → Prop} {a : Addr} {xs : List V} (hj : σ[j]? = some (some (.ref a))) (hv : H1 a = some (.tup xs) ∨ H1 a = some (.lst xs))
    (Rl : Addr → Nat → V → Hp → Prop) (st : ∀ D, Stab D (Rl D)) (hn : xs.length ≤ 10000) (hvs : ∀ x, wipe ((wipe σ vs).set k (some x)) vs = wipe σ vs)
    (hs : ∀ D i x H acc, xs[i]? = some x → Ext P w tb C H1 H → H1 D = none → H D = some (.lst acc) → ∀ Qk : V → Hp → Prop, (∀ y H4, Ext P w tb C H H4 → Rl D i y H4 → Qk y H4) → te ((wipe σ vs).set k (some x)) H Qk)
    (hd : ∀ D H ys, H1 D = none → Ext P w tb C H1 H → H D = some (.lst ys) → ys.length = xs.length → (∀ i y, ys[i]? = some y → Rl D i y H) → Q D H) :
    iOr (iList K (tVar j)) (iTup K (tVar j)) σ H1 fun J H2 => ∀ D, H2 D = none → LcW (gName k) tYes te vs σ J H2 D fun H3 => Q D H3 := by
  rcases hv with hv | hv
  · refine .inr ⟨_, hj, a, rfl, ⟨xs, SqT.of hv⟩, fun D hD => lc_gen (P := P) (w := w) (tb := tb) (C := C) (walk_tup (xs := xs)) (R0 := fun i x => xs[i]? = some x) (fun i H x H' y => y) hD (fun H' e => SqT.of (e.tup hv)) (Rl D) (st D) hn hvs
      (fun i x H acc hi hx e h => hs D i x H acc hx e hD h) fun H ys e h hl hr => hd D H ys hD e h hl hr⟩
  · refine .inl ⟨_, hj, a, rfl, ⟨xs, SqL.of hv⟩, fun D hD => lc_gen (P := P) (w := w) (tb := tb) (C := C) (walk_list (xs := xs)) (R0 := fun i x => xs[i]? = some x) (fun i H x H' y => y) hD (fun H' e => SqL.of (e.lst hv)) (Rl D) (st D) hn hvs
      (fun i x H acc hi hx e h => hs D i x H acc hx e hD h) fun H ys e h hl hr => hd D H ys hD e h hl hr⟩
end
end K95
set_option Elab.async false
set_option linter.all false
set_option maxRecDepth 100000
set_option maxHeartbeats 4000000
set_option autoImplicit false
namespace K95
open PySem PySem.Spec PyProof.Rows L2
theorem line_of {n : Nat} (h : n ≤ 60000) : n < sizeLine := Nat.lt_of_le_of_lt h (by decide)
theorem PairTup.kp {H H' : Hp} {p : Addr} {xs : List V} (hp : H p = some (.lst xs)) (k : Kp p H H') {v : V} {x : Nat × Nat} (h : PairTup H v x) : PairTup H' v x := by
  obtain ⟨a, e, h⟩ := h
  exact ⟨a, e, k a _ (ne_of h hp fun z => by cases z) h rfl⟩
theorem IntTup.kp {H H' : Hp} {p : Addr} {xs : List V} (hp : H p = some (.lst xs)) (k : Kp p H H') {v : V} {x : List Nat} (h : IntTup H v x) : IntTup H' v x := by
  obtain ⟨a, e, h⟩ := h
  exact ⟨a, e, k a _ (ne_of h hp fun z => by cases z) h rfl⟩
section
variable {P : Program} {w : World} {tb : Tbs} {C : Addr}
theorem PairTup.ext {H H' : Hp} (e : Ext P w tb C H H') {v : V} {x : Nat × Nat} (h : PairTup H v x) : PairTup H' v x := h.mono fun _ _ z => e.tup z
/-- a list of values that stand apart from it grows by one -/
theorem paired_grow {α : Type} {R : Hp → V → α → Prop} {H H' : Hp} {p : Addr} {vs : List V} {xs : List α} {l : List V} {v : V} {x : α} (st : ∀ v x, R H v x → R H' v x) (h : Paired (R H) vs xs) (hx : R H' v x) : Paired (R H') (vs ++ [v]) (xs ++ [x]) :=
  paired_app (Paired.mapP h st) (.cons hx .nil)
end
theorem cut1 (xs : List V) : cutV xs (some 1) none = xs.drop 1 := by
  unfold cutV
  rw [show HT.sIx xs.length 0 (some 1) = min 1 xs.length from HT.sIx_nat xs.length 0 1, HT.sIx_none]
  cases xs with
  | nil => rfl
  | cons x r =>
    rw [show min 1 (x :: r).length = 1 by
      rw [List.length_cons]
      omega]
    show (List.take ((x :: r).length - 1) r) = r
    rw [List.length_cons, Nat.add_sub_cancel]
    exact List.take_length
theorem Form.get {T : Tab} {n k x c : Nat} (F : Form T n k) (h : x < n) (hc : c < k) : ∃ r, T[x]? = some r ∧ r[c]? = some (step T x c) := by
  obtain ⟨r, h1, h2, h3⟩ := F.at h
  refine ⟨r, h1, ?_⟩
  unfold step
  rw [h3, List.getD_eq_getElem?_getD, List.getElem?_eq_getElem (by omega : c < r.length)]
  rfl
theorem nvs_map {l : List Nat} {f : Nat → Nat} {ys : List V} (hl : ys.length = l.length) (h : ∀ (i : Nat) y x, ys[i]? = some y → l[i]? = some x → y = nv (f x)) : ys = nvs (l.map f) := by
  unfold nvs
  rw [List.map_map]
  exact list_map hl h
theorem TabT.row {H : Hp} {a x : Nat} {T : Tab} {row : List Nat} (h : TabT H a T) (hx : T[x]? = some row) : ∃ vs b, H a = some (.tup vs) ∧ vs[x]? = some (.ref b) ∧ H b = some (.tup (nvs row)) := by
  obtain ⟨vs, h1, h2⟩ := h
  obtain ⟨v, e1, b, rfl, e2⟩ := paired_get h2 hx
  exact ⟨vs, b, h1, e1, e2⟩
section
variable {P : Program} {w : World} {tb : Tbs} {C : Addr} {K : PySem.W.Frag}
/-- over a tuple -/
theorem lc_t {te : TE} {k : Nat} {vs : List Nat} {σ : L2.St} {H1 : Hp} {Q : Addr → Hp → Prop} {a : Addr} {xs : List V} (hv : H1 a = some (.tup xs))
    (Rl : Addr → Nat → V → Hp → Prop) (st : ∀ D, Stab D (Rl D)) (hn : xs.length ≤ 10000) (hvs : ∀ x, wipe ((wipe σ vs).set k (some x)) vs = wipe σ vs)
    (hs : ∀ D i x H acc, xs[i]? = some x → Ext P w tb C H1 H → H1 D = none → H D = some (.lst acc) → ∀ Qk : V → Hp → Prop, (∀ y H4, Ext P w tb C H H4 → Rl D i y H4 → Qk y H4) → te ((wipe σ vs).set k (some x)) H Qk)
    (hd : ∀ D H ys, H1 D = none → Ext P w tb C H1 H → H D = some (.lst ys) → ys.length = xs.length → (∀ i y, ys[i]? = some y → Rl D i y H) → Q D H) :
    ∃ b, V.ref a = .ref b ∧ (∃ ys, SqT K H1 b ys) ∧ ∀ D, H1 D = none → LcW (gName k) tYes te vs σ (Itt K b) H1 D fun H3 => Q D H3 :=
  ⟨a, rfl, ⟨xs, SqT.of hv⟩, fun D hD => lc_gen (P := P) (w := w) (tb := tb) (C := C) (walk_tup (xs := xs)) (R0 := fun i x => xs[i]? = some x) (fun i H x H' y => y) hD (fun H' e => SqT.of (e.tup hv)) (Rl D) (st D) hn hvs
      (fun i x H acc hi hx e h => hs D i x H acc hx e hD h) fun H ys e h hl hr => hd D H ys hD e h hl hr⟩
/-- over a list -/
theorem lc_l {te : TE} {k : Nat} {vs : List Nat} {σ : L2.St} {H1 : Hp} {Q : Addr → Hp → Prop} {a : Addr} {xs : List V} (hv : H1 a = some (.lst xs))
    (Rl : Addr → Nat → V → Hp → Prop) (st : ∀ D, Stab D (Rl D)) (hn : xs.length ≤ 10000) (hvs : ∀ x, wipe ((wipe σ vs).set k (some x)) vs = wipe σ vs)
    (hs : ∀ D i x H acc, xs[i]? = some x → Ext P w tb C H1 H → H1 D = none → H D = some (.lst acc) → ∀ Qk : V → Hp → Prop, (∀ y H4, Ext P w tb C H H4 → Rl D i y H4 → Qk y H4) → te ((wipe σ vs).set k (some x)) H Qk)
    (hd : ∀ D H ys, H1 D = none → Ext P w tb C H1 H → H D = some (.lst ys) → ys.length = xs.length → (∀ i y, ys[i]? = some y → Rl D i y H) → Q D H) :
    ∃ b, V.ref a = .ref b ∧ (∃ ys, SqL K H1 b ys) ∧ ∀ D, H1 D = none → LcW (gName k) tYes te vs σ (Itl K b) H1 D fun H3 => Q D H3 :=
  ⟨a, rfl, ⟨xs, SqL.of hv⟩, fun D hD => lc_gen (P := P) (w := w) (tb := tb) (C := C) (walk_list (xs := xs)) (R0 := fun i x => xs[i]? = some x) (fun i H x H' y => y) hD (fun H' e => SqL.of (e.lst hv)) (Rl D) (st D) hn hvs
      (fun i x H acc hi hx e h => hs D i x H acc hx e hD h) fun H ys e h hl hr => hd D H ys hD e h hl hr⟩
/-- over range(n) -/
theorem lc_r {te : TE} {k : Nat} {vs : List Nat} {σ : L2.St} {H1 : Hp} {Q : Addr → Hp → Prop} {lo : Int} {n : Nat}
    (Rl : Addr → Nat → V → Hp → Prop) (st : ∀ D, Stab D (Rl D)) (hn : n ≤ 10000) (hvs : ∀ x, wipe ((wipe σ vs).set k (some x)) vs = wipe σ vs)
    (hs : ∀ D i H acc, i < n → Ext P w tb C H1 H → H1 D = none → H D = some (.lst acc) → ∀ Qk : V → Hp → Prop, (∀ y H4, Ext P w tb C H H4 → Rl D i y H4 → Qk y H4) → te ((wipe σ vs).set k (some (.int (lo + i)))) H Qk)
    (hd : ∀ D H ys, H1 D = none → Ext P w tb C H1 H → H D = some (.lst ys) → ys.length = n → (∀ i y, ys[i]? = some y → Rl D i y H) → Q D H) :
    ∀ D, H1 D = none → LcW (gName k) tYes te vs σ (Itr lo n) H1 D fun H3 => Q D H3 :=
  fun D hD => lc_gen (P := P) (w := w) (tb := tb) (C := C) (walk_range (lo := lo) (n := n)) (R0 := fun i x => x = .int (lo + i)) (fun i H x H' y => y) hD (fun H' e => trivial) (Rl D) (st D) hn hvs
      (fun i x H acc hi hx e h => by subst hx; exact hs D i H acc hi e hD h) fun H ys e h hl hr => hd D H ys hD e h hl hr
end
end K95
set_option Elab.async false
set_option linter.all false
set_option maxRecDepth 100000
set_option maxHeartbeats 4000000
set_option autoImplicit false
namespace K95
open PySem PySem.Spec PyProof.Rows L2
/-! ### data: rows of numbers -/
def dI (l : List Nat) : List PyData := l.map fun (n : Nat) => PyData.int (n : Int)
def dT (l : List Nat) : PyData := .tuple (dI l)
def dL (l : List Nat) : PyData := .list (dI l)
theorem dI_lay : ∀ l : List Nat, PyData.canLayAll0 (dI l) = true
  | [] => rfl
  | _ :: r => by
    have := dI_lay r
    simp only [dI, List.map_cons, PyData.canLayAll0, PyData.canLay0, Bool.true_and]
    exact this
theorem dI_depth : ∀ l : List Nat, PyData.depthAll (dI l) = 0
  | [] => rfl
  | _ :: r => by
    have := dI_depth r
    simp only [dI, List.map_cons, PyData.depthAll, PyData.depth, Nat.zero_max]
    exact this
theorem dI_eqv : ∀ l m : List Nat, PyData.eqvAll (dI l) (dI m) = decide (l = m)
  | [], [] => by simp [dI, PyData.eqvAll]
  | [], _ :: _ => by simp [dI, PyData.eqvAll]
  | _ :: _, [] => by simp [dI, PyData.eqvAll]
  | a :: r, b :: t => by
    have := dI_eqv r t
    simp only [dI] at this
    simp only [dI, List.map_cons, PyData.eqvAll, PyData.eqv, this]
    have e : ((a : Int) == (b : Int)) = decide (a = b) := by
      by_cases h : a = b
      · subst h; simp
      · have : (a : Int) ≠ (b : Int) := fun z => h (by omega)
        simp [h, this]
    rw [e]
    by_cases h : a = b <;> by_cases h' : r = t <;> simp [h, h']
theorem dT_shaped (l : List Nat) : SeqAt.shaped (dT l) = true := by
  simp [SeqAt.shaped, dT, PyData.canLay0, PyData.depth, dI_lay, dI_depth]
theorem dL_shaped (l : List Nat) : SeqAt.shaped (dL l) = true := by
  simp [SeqAt.shaped, dL, PyData.canLay0, PyData.depth, dI_lay, dI_depth]
theorem dT_eqv (l m : List Nat) : PyData.eqv (dT l) (dT m) = decide (l = m) := by
  simp only [dT, PyData.eqv, dI_eqv]
theorem dL_eqv (l m : List Nat) : PyData.eqv (dL l) (dL m) = decide (l = m) := by
  simp only [dL, PyData.eqv, dI_eqv]
theorem lay_all {α : Type} (f : α → PyData) (h : ∀ x, PyData.canLay0 (f x) = true) : ∀ l : List α, PyData.canLayAll0 (l.map f) = true
  | [] => rfl
  | x :: r => by simp only [List.map_cons, PyData.canLayAll0, h x, lay_all f h r, Bool.and_self]
theorem depth_all {α : Type} (f : α → PyData) (h : ∀ x, PyData.depth (f x) ≤ 10) : ∀ l : List α, PyData.depthAll (l.map f) ≤ 10
  | [] => Nat.zero_le _
  | x :: r => by
    simp only [List.map_cons, PyData.depthAll]
    exact Nat.max_le.mpr ⟨h x, depth_all f h r⟩
theorem list_shaped {α : Type} (f : α → PyData) (h : ∀ x, PyData.canLay0 (f x) = true) (h2 : ∀ x, PyData.depth (f x) ≤ 10) (l : List α) : SeqAt.shaped (.list (l.map f)) = true := by
  have h3 : PyData.depth (.list (l.map f)) ≤ 64 := by
    have := depth_all f h2 l
    simp only [PyData.depth]
    omega
  have h4 : PyData.canLay0 (.list (l.map f)) = true := by simp only [PyData.canLay0, lay_all f h l]
  unfold SeqAt.shaped
  rw [h4, decide_eq_true h3] <;> rfl
theorem dT_lay (l : List Nat) : PyData.canLay0 (dT l) = true := by simp only [dT, PyData.canLay0, dI_lay]
theorem dL_lay (l : List Nat) : PyData.canLay0 (dL l) = true := by simp only [dL, PyData.canLay0, dI_lay]
theorem dT_depth (l : List Nat) : PyData.depth (dT l) ≤ 10 := by simp [dT, PyData.depth, dI_depth]
theorem dL_depth (l : List Nat) : PyData.depth (dL l) ≤ 10 := by simp [dL, PyData.depth, dI_depth]
theorem lT_shaped (Ts : List (List Nat)) : SeqAt.shaped (.list (Ts.map dT)) = true := list_shaped dT dT_lay dT_depth Ts
theorem lL_shaped (Ts : List (List Nat)) : SeqAt.shaped (.list (Ts.map dL)) = true := list_shaped dL dL_lay dL_depth Ts
section
variable {K : PySem.W.Frag} {H : Hp}
theorem dp_ints : ∀ l : List Nat, DpAll K H (nvs l) (dI l)
  | [] => .nil
  | _ :: r => .cons (.int _) (dp_ints r)
theorem dp_tup {v : V} {l : List Nat} (h : IntTup H v l) : Dp K H v (dT l) := by
  obtain ⟨a, rfl, h⟩ := h
  exact .tup (SqT.of h) (dp_ints l)
theorem dp_tupT {a : Addr} {l : List Nat} (h : SqT K H a (nvs l)) : Dp K H (.ref a) (dT l) := .tup h (dp_ints l)
theorem dp_lst {a : Addr} {l : List Nat} (h : SqL K H a (nvs l)) : Dp K H (.ref a) (dL l) := .lst h (dp_ints l)
theorem dp_all {α : Type} {R : V → α → Prop} {f : α → PyData} (hf : ∀ v x, R v x → Dp K H v (f x)) : ∀ {vs : List V} {xs : List α}, Paired R vs xs → DpAll K H vs (xs.map f)
  | _, _, .nil => .nil
  | _, _, .cons r t => .cons (hf _ _ r) (dp_all hf t)
theorem dp_lT {a : Addr} {vs : List V} {Ts : List (List Nat)} (h : SqL K H a vs) (p : Paired (IntTup H) vs Ts) : Dp K H (.ref a) (.list (Ts.map dT)) := .lst h (dp_all (fun _ _ z => dp_tup z) p)
end
theorem any_dT (l : List Nat) (Ts : List (List Nat)) : ((Ts.map dT).any fun z => PyData.eqv z (dT l)) = decide (l ∈ Ts) := by
  induction Ts with
  | nil => simp
  | cons t r ih =>
    rw [List.map_cons, List.any_cons, ih, dT_eqv]
    by_cases h : t = l <;> by_cases h' : l ∈ r <;> simp [h, h', eq_comm]
    all_goals intro z; exact absurd z.symm h
theorem any_dL (l : List Nat) (Ts : List (List Nat)) : ((Ts.map dL).any fun z => PyData.eqv z (dL l)) = decide (l ∈ Ts) := by
  induction Ts with
  | nil => simp
  | cons t r ih =>
    rw [List.map_cons, List.any_cons, ih, dL_eqv]
    by_cases h : t = l <;> by_cases h' : l ∈ r <;> simp [h, h', eq_comm]
    all_goals intro z; exact absurd z.symm h
theorem any_dI (n : Nat) (l : List Nat) : ((dI l).any fun z => PyData.eqv z (.int (n : Int))) = decide (n ∈ l) := by
  induction l with
  | nil => simp [dI]
  | cons t r ih =>
    simp only [dI] at ih
    simp only [dI, List.map_cons, List.any_cons, ih, PyData.eqv]
    have e : ((t : Int) == (n : Int)) = decide (t = n) := by
      by_cases h : t = n
      · subst h; simp
      · have : (t : Int) ≠ (n : Int) := fun z => h (by omega)
        simp [h, this]
    rw [e]
    by_cases h : t = n
    · subst h; simp
    · have h2 : ¬ n = t := fun z => h z.symm
      simp [h, h2]
end K95
set_option Elab.async false
set_option linter.all false
set_option maxRecDepth 100000
set_option maxHeartbeats 4000000
set_option autoImplicit false
namespace K95
open PySem PySem.Spec PyProof.Rows L2
theorem nodup_map_on {α β : Type} {f : α → β} : ∀ {l : List α}, (∀ a ∈ l, ∀ b ∈ l, f a = f b → a = b) → l.Nodup → (l.map f).Nodup
  | [], _, _ => .nil
  | x :: r, h, hn => by
    rw [List.nodup_cons] at hn
    rw [List.map_cons, List.nodup_cons]
    refine ⟨fun hx => ?_, nodup_map_on (fun a ha b hb => h a (List.mem_cons_of_mem _ ha) b (List.mem_cons_of_mem _ hb)) hn.2⟩
    obtain ⟨y, hy, e⟩ := List.mem_map.mp hx
    have := h y (List.mem_cons_of_mem _ hy) x List.mem_cons_self e
    subst this
    exact hn.1 hy
theorem nodup_len {α : Type} : ∀ {l m : List α}, l.Nodup → (∀ x ∈ l, x ∈ m) → l.length ≤ m.length
  | [], _, _, _ => Nat.zero_le _
  | x :: r, m, hn, h => by
    rw [List.nodup_cons] at hn
    obtain ⟨a, b, rfl⟩ := List.append_of_mem (h x List.mem_cons_self)
    have := nodup_len (l := r) (m := a ++ b) hn.2 fun y hy => by
      have h1 := h y (List.mem_cons_of_mem _ hy)
      rcases List.mem_append.mp h1 with h2 | h2
      · exact List.mem_append_left _ h2
      · rcases List.mem_cons.mp h2 with h3 | h3
        · subst h3
          exact absurd hy hn.1
        · exact List.mem_append_right _ h3
    simp at this ⊢
    omega
/-- keys of the memory that are all unlike are not many -/
theorem keys_le {n : Nat} : ∀ {ks : List (Option Nat)}, ks.Nodup → (∀ k ∈ ks, ∀ x, k = some x → x < n) → ks.length ≤ n + 1 := by
  intro ks hn hk
  have : (ks.map fun k => match k with | none => n | some x => x).Nodup := by
    refine nodup_map_on (fun a ha b hb e => ?_) hn
    cases a with
    | none =>
      cases b with
      | none => rfl
      | some y => have := hk _ hb y rfl; simp at e; omega
    | some x =>
      cases b with
      | none => have := hk _ ha x rfl; simp at e; omega
      | some y => simp at e; rw [e]
  have h2 : ∀ x ∈ (ks.map fun k => match k with | none => n | some x => x), x < n + 1 := by
    intro x hx
    obtain ⟨k, hk', rfl⟩ := List.mem_map.mp hx
    cases k with
    | none => simp
    | some y => have := hk _ hk' y rfl; simp; omega
  have h3 := nodup_len this (m := List.range (n + 1)) fun x hx => List.mem_range.mpr (h2 x hx)
  simpa using h3
def MVal (T : Tab) : Option Nat → List V → Prop
  | none, ys => ys = (words T).map V.str
  | some n, ys => n < T.length ∧ ys = nvs (path T n)
section
variable {P : Program} {w : World} {H : Hp} {d a : Addr} {es es' : Array DictEntry} {xs : MX} {T : Tab} {ys : List V} {od : Obj} {kv : Value}
theorem MemFor.raw (h : MemFor P w H d T) : ∃ es xs, MRaw P w H d es xs ∧ (∀ x ∈ xs, MemE T H x) ∧ xs.length ≤ T.length + 1 := by
  obtain ⟨es, xs, h1, h2, h3, h4, h5⟩ := h
  refine ⟨es, xs, ⟨h1, h2, h3, h4, fun x hx => ?_⟩, h5, ?_⟩
  · obtain ⟨k, kv, a⟩ := x
    have := h5 _ hx
    cases k with
    | none => exact this.1
    | some n => exact this.1
  · have := keys_le (n := T.length) h4 fun k hk x e => by
      obtain ⟨y, hy, rfl⟩ := List.mem_map.mp hk
      obtain ⟨k0, kv, a⟩ := y
      have h6 := h5 _ hy
      have e' : k0 = some x := e
      subst e'
      exact h6.2.1
    simpa using this
theorem MRaw.mem (m : MRaw P w H d es xs) (h : ∀ x ∈ xs, MemE T H x) : MemFor P w H d T := ⟨es, xs, m.at_, m.sm, m.es, m.nd, h⟩
theorem mem_put {k : Option Nat} (m : MRaw P w H d es xs) (he : ∀ x ∈ xs, MemE T H x) (hn : ∀ x ∈ xs, x.1 ≠ k) (ha : H a = some (.lst ys)) (hkv : MKv H k kv) (hv : MVal T k ys) (e : es'.toList = (xs ++ [(k, kv, a)]).map (mEntry P w)) :
    MRaw P w (upd (upd H a (.frz od (.lst ys))) d (MemO d es')) d es' (xs ++ [(k, kv, a)]) ∧ ∀ x ∈ xs ++ [(k, kv, a)], MemE T (upd (upd H a (.frz od (.lst ys))) d (MemO d es')) x := by
  have nda : d ≠ a := ne_of m.at_ ha fun z => memO_ne (o := .lst ys) rfl z
  have kp : ∀ b u, H b = some u → (∀ z, u ≠ .lst z) → (∀ z, u ≠ MemO d z) → upd (upd H a (.frz od (.lst ys))) d (MemO d es') b = some u := fun b u h h1 h2 => by
    rw [upd_ne (fun z => by subst z; rw [m.at_] at h; cases h; exact h2 _ rfl), upd_ne (fun z => by subst z; rw [ha] at h; cases h; exact h1 _ rfl)]
    exact h
  have kt : ∀ b zs, H b = some (.tup zs) → upd (upd H a (.frz od (.lst ys))) d (MemO d es') b = some (.tup zs) := fun b zs h => kp _ _ h (fun _ z => by cases z) fun _ z => by unfold MemO at z; cases z
  have kf : ∀ b o u, H b = some (.frz o u) → upd (upd H a (.frz od (.lst ys))) d (MemO d es') b = some (.frz o u) := fun b o u h => kp _ _ h (fun _ z => by cases z) fun _ z => by unfold MemO at z; cases z
  have na : upd (upd H a (.frz od (.lst ys))) d (MemO d es') a = some (.frz od (.lst ys)) := by rw [upd_ne nda.symm, upd_same]
  have kk : ∀ {k' kv'}, MKv H k' kv' → MKv (upd (upd H a (.frz od (.lst ys))) d (MemO d es')) k' kv' := fun {k' kv'} h => by
    cases k' with
    | none => exact h
    | some n =>
      obtain ⟨ka, h1, h2⟩ := h
      exact ⟨ka, h1, kt _ _ h2⟩
  refine ⟨⟨upd_same, m.sm, e, ?_, fun x hx => ?_⟩, fun x hx => ?_⟩
  · rw [List.map_append, List.nodup_append]
    refine ⟨m.nd, by simp, fun x hx y hy => ?_⟩
    rw [List.map_singleton, List.mem_singleton] at hy
    subst hy
    obtain ⟨z, hz, rfl⟩ := List.mem_map.mp hx
    exact hn z hz
  · rcases List.mem_append.mp hx with h | h
    · exact kk (m.ks x h)
    · rw [List.mem_singleton.mp h]
      exact kk hkv
  · rcases List.mem_append.mp hx with h | h
    · exact (he x h).mono kt kf
    · rw [List.mem_singleton.mp h]
      cases k with
      | none =>
        have hv' : ys = (words T).map V.str := hv
        exact ⟨hkv, od, by rw [na, hv']⟩
      | some n =>
        obtain ⟨h1, h2⟩ := hv
        exact ⟨kk hkv, h1, od, by rw [na, h2]⟩
end
/-! ### words -/
theorem wordStr_nil : wordStr [] = ("" : Str) := rfl
theorem wordStr_snoc (p : List Nat) (c : Nat) : wordStr p ++ (⟨#[97 + c]⟩ : Str) = wordStr (p ++ [c]) := by
  show Str.append _ _ = _
  unfold Str.append wordStr letterAt
  simp
theorem wordStr_len (p : List Nat) : (wordStr p).length = p.length := by
  show (wordStr p).cps.size = _
  unfold wordStr
  simp
theorem letter_at {c : Nat} (h : c < 6) : atI ("abcdef" : Str).cps.toList (c : Int) = some (97 + c) := by
  refine atI_nat (j := c) ?_
  have : c = 0 ∨ c = 1 ∨ c = 2 ∨ c = 3 ∨ c = 4 ∨ c = 5 := by omega
  rcases this with rfl | rfl | rfl | rfl | rfl | rfl <;> rfl
end K95
set_option Elab.async false
set_option linter.all false
set_option maxRecDepth 100000
set_option maxHeartbeats 4000000
set_option autoImplicit false
namespace K95
open PySem PySem.Spec PyProof.Rows L2
/-! ### dicts over numbers, pairs, rows -/
theorem valV_map {κ κ' : Type} [DecidableEq κ] [DecidableEq κ'] {f : κ → κ'} (hf : ∀ a b, f a = f b → a = b) (l : List (κ × V)) (k : κ) : valV (l.map fun p => (f p.1, p.2)) (f k) = valV l k := by
  induction l with
  | nil => rfl
  | cons p r ih =>
    rw [List.map_cons]
    by_cases h : p.1 = k
    · rw [valV_pos h, valV_pos (by simp [h])]
    · rw [valV_neg h, valV_neg (fun z => h (hf _ _ z))]
      exact ih
theorem putK_new {κ : Type} [DecidableEq κ] {l : List (κ × V)} {k : κ} {v : V} (h : valV l k = none) : putK l k v = l ++ [(k, v)] := by
  unfold putK
  rw [if_neg]
  intro z
  rw [List.any_eq_true] at z
  obtain ⟨p, hp, e⟩ := z
  have e := of_decide_eq_true e
  unfold valV at h
  rw [Option.map_eq_none_iff, List.find?_eq_none] at h
  exact h p hp (decide_eq_true e)
/-- kinds of keys -/
structure El (α : Type) [DecidableEq α] where
  R : Hp → V → α → Prop
  dic : List (α × V) → HO
  get : ∀ {H : Hp} {d : Addr} {v : V} {x : α} {l : List (α × V)}, H d = some (dic l) → R H v x → DGet H d v (valV l x)
  put : ∀ {H : Hp} {d : Addr} {v y : V} {x : α} {l : List (α × V)}, H d = some (dic l) → R H v x → valV l x = none → l.length < sizeLine → DPut H d v y (upd H d (dic (l ++ [(x, y)])))
  mu : ∀ l, mutO (dic l) = true
  nl : ∀ l xs, dic l ≠ .lst xs
  tup : ∀ {H H' : Hp} {v : V} {x : α}, (∀ a xs, H a = some (.tup xs) → H' a = some (.tup xs)) → R H v x → R H' v x
  ni : ∀ l C dx fs, dic l ≠ .ins C dx fs
  one : ∀ {H : Hp} {v y : V} {x : α}, R H v x → (∃ key, v = kV key ∧ dic [(x, y)] = .dK [(key, y)]) ∨ ∃ ks b, v = .ref b ∧ H b = some (.tup (ks.map kV)) ∧ dic [(x, y)] = .dT [(ks, y)]
theorem kV_nat (n : Nat) : kV (Sum.inl (n : Int)) = nv n := rfl
def elN : El Nat where
  R := fun _ v x => v = nv x
  dic := fun l => .dK (l.map fun (p : Nat × V) => ((Sum.inl (p.1 : Int) : Key), p.2))
  get := fun {H d v x l} h r => by
    subst r
    have := DGet.k (k := Sum.inl (x : Int)) h
    rw [valV_map (f := fun n : Nat => (Sum.inl (n : Int) : Key)) (fun a b e => by have := Sum.inl.inj e; omega)] at this
    exact this
  put := fun {H d v y x l} h r hn hl => by
    subst r
    have := DPut.k (k := Sum.inl (x : Int)) (v := y) h (by rw [List.length_map]; exact hl)
    rw [putK_new (by rw [valV_map (f := fun n : Nat => (Sum.inl (n : Int) : Key)) (fun a b e => by have := Sum.inl.inj e; omega)]; exact hn)] at this
    rw [List.map_append]
    exact this
  mu := fun _ => rfl
  nl := fun _ _ z => by cases z
  tup := fun _ r => r
  ni := fun _ _ _ _ z => by cases z
  one := fun {H v y x} r => .inl ⟨Sum.inl (x : Int), r, rfl⟩
def pk (p : Nat × Nat) : List Key := [Sum.inl (p.1 : Int), Sum.inl (p.2 : Int)]
theorem pk_inj (a b : Nat × Nat) (h : pk a = pk b) : a = b := by
  unfold pk at h
  injection h with h1 h2
  injection h2 with h2 _
  have e1 := Sum.inl.inj h1
  have e2 := Sum.inl.inj h2
  exact Prod.ext (by omega) (by omega)
def elP : El (Nat × Nat) where
  R := PairTup
  dic := fun l => .dT (l.map fun p => (pk p.1, p.2))
  get := fun {H d v x l} h r => by
    obtain ⟨a, rfl, ha⟩ := r
    have := DGet.t (k := pk x) h (b := a) ha
    rw [valV_map (f := pk) pk_inj] at this
    exact this
  put := fun {H d v y x l} h r hn hl => by
    obtain ⟨a, rfl, ha⟩ := r
    have := DPut.t (k := pk x) (v := y) h (b := a) ha (by rw [List.length_map]; exact hl)
    rw [putK_new (by rw [valV_map (f := pk) pk_inj]; exact hn)] at this
    rw [List.map_append]
    exact this
  mu := fun _ => rfl
  nl := fun _ _ z => by cases z
  tup := fun k r => r.mono k
  ni := fun _ _ _ _ z => by cases z
  one := fun {H v y x} r => by
    obtain ⟨a, rfl, ha⟩ := r
    exact .inr ⟨pk x, a, rfl, ha, rfl⟩
def tk (l : List Nat) : List Key := l.map fun (n : Nat) => (Sum.inl (n : Int) : Key)
theorem tk_inj (a b : List Nat) (h : tk a = tk b) : a = b := by
  unfold tk at h
  refine List.map_inj_right (f := fun n : Nat => (Sum.inl (n : Int) : Key)) (fun x y z => ?_) |>.mp h
  have := Sum.inl.inj z
  omega
theorem tk_nvs (l : List Nat) : (tk l).map kV = nvs l := by
  unfold tk nvs
  rw [List.map_map] <;> rfl
def elT : El (List Nat) where
  R := IntTup
  dic := fun l => .dT (l.map fun p => (tk p.1, p.2))
  get := fun {H d v x l} h r => by
    obtain ⟨a, rfl, ha⟩ := r
    have := DGet.t (k := tk x) h (b := a) (by rw [tk_nvs]; exact ha)
    rw [valV_map (f := tk) tk_inj] at this
    exact this
  put := fun {H d v y x l} h r hn hl => by
    obtain ⟨a, rfl, ha⟩ := r
    have := DPut.t (k := tk x) (v := y) h (b := a) (by rw [tk_nvs]; exact ha) (by rw [List.length_map]; exact hl)
    rw [putK_new (by rw [valV_map (f := tk) tk_inj]; exact hn)] at this
    rw [List.map_append]
    exact this
  mu := fun _ => rfl
  nl := fun _ _ z => by cases z
  tup := fun k r => r.mono k
  ni := fun _ _ _ _ z => by cases z
  one := fun {H v y x} r => by
    obtain ⟨a, rfl, ha⟩ := r
    exact .inr ⟨tk x, a, rfl, by rw [tk_nvs]; exact ha, rfl⟩
section
variable {α : Type} [DecidableEq α]
def numb (l : List α) : List (α × V) := l.mapIdx fun i x => (x, nv i)
theorem numb_snoc (l : List α) (x : α) : numb (l ++ [x]) = numb l ++ [(x, nv l.length)] := by
  unfold numb
  rw [List.mapIdx_append] <;> simp
theorem valV_snoc {κ : Type} [DecidableEq κ] {l : List (κ × V)} {k k' : κ} {v : V} : valV (l ++ [(k', v)]) k = match valV l k with
    | some u => some u
    | none => if k' = k then some v else none := by
  induction l with
  | nil =>
    rw [List.nil_append, valV_nil]
    by_cases h : k' = k
    · rw [valV_pos h, if_pos h]
    · rw [valV_neg h, if_neg h, valV_nil]
  | cons p r ih =>
    rw [List.cons_append]
    by_cases h : p.1 = k
    · rw [valV_pos h, valV_pos h]
    · rw [valV_neg h, valV_neg h]
      exact ih
theorem numb_val (l : List α) (x : α) : valV (numb l) x = if x ∈ l then some (nv (l.idxOf x)) else none := by
  induction l using snoc_ind with
  | h0 => rfl
  | h1 l y ih =>
    rw [numb_snoc, valV_snoc, ih]
    by_cases h : x ∈ l
    · rw [if_pos h, if_pos (List.mem_append_left _ h), List.idxOf_append, if_pos h]
    · rw [if_neg h]
      by_cases e : y = x
      · subst e
        rw [if_pos rfl, if_pos (by simp)]
        show some (nv l.length) = _
        congr 2
        rw [List.idxOf_append, if_neg h]
        simp
      · have hn : x ∉ l ++ [y] := by
          simp [h]
          exact fun z => e z.symm
        rw [if_neg hn]
        show (if y = x then some (nv l.length) else none) = none
        rw [if_neg e]
end
end K95
set_option Elab.async false
set_option linter.all false
set_option maxRecDepth 100000
set_option maxHeartbeats 4000000
set_option autoImplicit false
namespace K95
open PySem PySem.Spec PyProof.Rows L2
theorem pi_c {X : Cx} {tg e : Expr} {t t' : TI} (h : PI X tg e t) (he : t = t' := by first | rfl | (dsimp only [Cx.blk] <;> rfl)) : PI X tg e t' := he ▸ h
theorem Ext.few {P : Program} {w : World} {tb : Tbs} {C : Addr} {H H' : Hp} (k : LamX.ExtN H H') (f : Few H H') (t : LamX.Tabs tb H') : Ext P w tb C H H' := by
  have old : ∀ {m dx r tt l d}, H' m = some (.ins C dx (mflds r tt l d)) → H m = some (.ins C dx (mflds r tt l d)) := fun {m dx r tt l d} h => by
    rcases f m _ h with ⟨ps, z⟩ | ⟨c, q, z⟩ | z
    · cases z
    · unfold LamX.CodeO at z
      cases z
    · exact z
  refine Ext.ofN k fun ok => ⟨t, fun m1 m2 dx1 dx2 r1 r2 t1 t2 l1 l2 d h1 h2 => ok.sep m1 m2 dx1 dx2 r1 r2 t1 t2 l1 l2 d (old h1) (old h2), fun m dx r tt l d h => ?_⟩
  obtain ⟨es, h3⟩ := ok.dm m dx r tt l d (old h)
  exact ⟨es, k d _ h3 fun ps z => by unfold MemO at z; cases z⟩
/-- a def that knows its code object -/
theorem okC {P : Program} {w : World} {K : PySem.W.Frag} {mg : Str → Option Value} {base : Heap} {x qual : Str} {params : Arguments} {body : List Stmt} {scope : Scope} {dvs : List V} {kws : List (Str × V)} {p : Str × Option Str} {fd : FuncData} {N ps : List Str} {k : Nat} {sp : Sp}
    (F : FunD K x qual params body scope dvs kws (He.fAd K p) fd) (S : FnScope N ps scope) (len : ∀ vs H Q E, sp vs H Q E → vs.length = ps.length)
    (hbody : ∀ (A : Around) (outer : List Env) (s : Shared) (H : Hp) (vs : List V) (Q : VK) (E : XK), Room k (A.deeper (envOfC qual scope s.heap.objs.size (He.fAd K p) (.ref (He.codeOf K p)))) → sp vs H Q E →
      ∃ t, PSs (cxOf CX0 P w K mg base N qual scope (He.fAd K p) (.ref (He.codeOf K p)) A outer s H E).nox body t ∧ t { nx := fun _ H' => Q .non H', rt := Q } (L2.start N vs) H) : FnOk P w K mg base CX0 (k + 1) (He.fAd K p) fd ps sp := by
  obtain ⟨oc, od, dV, kV, doc, pm, an, cdv, ct, osl, rfl, lk, hcd, _, _⟩ := F.ex
  obtain ⟨c, rfl⟩ := He.codeIn_ref hcd
  have ec : He.codeOf K p = c := He.codeOf_eq lk rfl
  refine fn_of lk hcd S len fun A outer s H vs Q E hr hsp => ?_
  rw [ec] at hbody
  obtain ⟨t, h, q⟩ := hbody A outer s H vs Q E hr hsp
  exact ⟨t, PSs.nox h, q⟩
/-- the code objects' tables -/
def lamQ (p : He.Defn) : Str := p.1 ++ ".<locals>." ++ "<lambda>"
def tbK (K : PySem.W.Frag) : Tbs := tfL.map fun p => ((He.cT K p).2, lamQ p)
theorem Txt.one {K : PySem.W.Frag} {mg : Str → Option Value} (T : Txt K mg) {q : He.Defn} (hq : q ∈ tfL) : ∀ p ∈ tbK K, p.1 = (He.cT K q).2 → p.2 = lamQ q := by
  intro p hp e
  obtain ⟨r, hr, rfl⟩ := List.mem_map.mp hp
  have hn := T.tabs
  have hi : ∀ {l : List He.Defn}, (l.map fun p => (He.cT K p).2).Nodup → ∀ a ∈ l, ∀ b ∈ l, (He.cT K a).2 = (He.cT K b).2 → a = b := by
    intro l
    induction l with
    | nil => intro _ a ha; cases ha
    | cons x t ih =>
      intro hd a ha b hb e
      rw [List.map_cons, List.nodup_cons] at hd
      rcases List.mem_cons.mp ha with rfl | ha' <;> rcases List.mem_cons.mp hb with rfl | hb'
      · rfl
      · exact absurd (List.mem_map.mpr ⟨b, hb', e.symm⟩) hd.1
      · exact absurd (List.mem_map.mpr ⟨a, ha', e⟩) hd.1
      · exact ih hd.2 a ha' b hb' e
  have := hi hn r hr q hq e
  rw [this]
theorem Txt.inTb {K : PySem.W.Frag} {q : He.Defn} (hq : q ∈ tfL) : ((He.cT K q).2, lamQ q) ∈ tbK K := List.mem_map.mpr ⟨q, hq, rfl⟩
def freeB (sc scope : Scope) : Bool := scope.names.all fun y => match y.2 with
  | .free => decide (sc.names.lookup y.1 = some .cell) || decide (sc.names.lookup y.1 = some .free)
  | _ => true
theorem free_by {sc scope : Scope} (h : freeB sc scope = true) : ∀ y ∈ scope.names, y.2 = .free → sc.names.lookup y.1 = some .cell ∨ sc.names.lookup y.1 = some .free := by
  intro y hy e
  unfold freeB at h
  have h1 := List.all_eq_true.mp h y hy
  rw [e] at h1
  simp only [Bool.or_eq_true, decide_eq_true_eq] at h1
  exact h1
end K95
set_option Elab.async false
set_option linter.all false
set_option maxRecDepth 100000
set_option maxHeartbeats 4000000
set_option autoImplicit false
namespace K95
open PySem PySem.Spec PyProof.Rows L2
section
variable {P : Program} {w : World} {tb : Tbs} {K : PySem.W.Frag} {mg : Str → Option Value} {base : Heap}
def spIsNumber : Sp := fun vs H Q _ => ∃ n : Int, vs = [.int n] ∧ Q (.bl true) H
theorem sc_d_is_number : FnScope ["thing"] ["thing"] d_is_number.scope := ⟨rfl, rfl, rfl, by decide +kernel, rfl, by decide +kernel, by decide +kernel⟩
theorem go_is_number (T : Txt K mg) : Go P w K mg base "is_number" ["thing"] 1 (spIsNumber) := by
  obtain ⟨fd, F⟩ := T.fn 0
  refine ⟨_, fd, T.g_is_number, F.kp, F.bindsN (fun _ _ _ _ _ _ us hl => match us, hl with | [_], _ => rfl), okN F sc_d_is_number (fun vs H Q E h => by
    obtain ⟨_, rfl, _⟩ := h
    rfl) (fun cdv A outer s H vs Q E rm h => ?_)⟩
  obtain ⟨n, rfl, q⟩ := h
  refine ⟨_, (pss_one (ps_ret (pe_and (pe_callB call_isi (by rfl) T.n_isinstance boot_isinstance (pa_cons (pv 0) (pa_cons (pe_bltn (v := .ty "int") (by rfl) T.n_int boot_int rfl) pa_nil))) (pe_one (pe_not (pe_callB call_isi (by rfl) T.n_isinstance boot_isinstance (pa_cons (pv 0) (pa_cons (pe_bltn (v := .ty "bool") (by rfl) T.n_bool boot_bool rfl) pa_nil)))))))), ?_⟩
  refine ⟨_, rfl, _, _, _, _, true, rfl, .ty _, .base (.int _), kit_ty (by decide +kernel), true, rfl, ?_⟩
  refine ⟨_, rfl, _, _, _, _, false, rfl, .ty _, .base (.int _), kit_ty (by decide +kernel), false, rfl, ?_⟩
  exact q
def spIsSeq (P : Program) (w : World) (tb : Tbs) (K : PySem.W.Frag) : Sp := fun vs H Q _ => ∃ v xs, vs = [v] ∧ SeqO H v xs ∧ ∀ H', Ext P w tb (CM K) H H' → Q (.bl true) H'
theorem sc_d_is_sequence : FnScope ["thing"] ["thing"] d_is_sequence.scope := ⟨rfl, rfl, rfl, by decide +kernel, rfl, by decide +kernel, by decide +kernel⟩
theorem go_is_sequence (T : Txt K mg) : Go P w K mg base "is_sequence" ["thing"] 1 (spIsSeq P w tb K) := by
  obtain ⟨fd, F⟩ := T.fn 1
  refine ⟨_, fd, T.g_is_sequence, F.kp, F.bindsN (fun _ _ _ _ _ _ us hl => match us, hl with | [_], _ => rfl), okN F sc_d_is_sequence (fun vs H Q E h => by
    obtain ⟨_, _, rfl, _⟩ := h
    rfl) (fun cdv A outer s H vs Q E rm h => ?_)⟩
  obtain ⟨v, xs, rfl, ⟨a, rfl, hv⟩, q⟩ := h
  refine ⟨_, (pss_one (ps_ret (pe_callB call_isiT (by rfl) T.n_isinstance (by decide +kernel) (pa_cons (pv 0) (pa_cons (pe_tup (pa_cons (pe_bltn (v := .ty "list") (by rfl) T.n_list boot_list rfl) (pa_cons (pe_bltn (v := .ty "tuple") (by rfl) T.n_tuple boot_tuple rfl) pa_nil))) pa_nil))))), ?_⟩
  refine ⟨_, rfl, (by show 2 ≤ sizeLine; decide), fun t ht => ?_⟩
  have e : Ext P w tb (CM K) H (upd H t (.tup [.ty "list", .ty "tuple"])) := Ext.new ht
  rcases hv with hv | hv
  · exact ⟨_, _, _, _, _, true, rfl, upd_same, .cons (.ty _) (.cons (.ty _) .nil), .base (.tup (e.tup hv)), rfl, q _ e⟩
  · exact ⟨_, _, _, _, _, true, rfl, upd_same, .cons (.ty _) (.cons (.ty _) .nil), .base (.lst (e.lst hv)), rfl, q _ e⟩
def spChecked (K : PySem.W.Frag) : Sp := fun vs H Q _ => ∃ m dx fs, vs = [.ref m] ∧ H m = some (.ins (CM K) dx fs) ∧ Q (.ref m) H
theorem sc_d_checked : FnScope ["monoid"] ["monoid"] d_checked.scope := ⟨rfl, rfl, rfl, by decide +kernel, rfl, by decide +kernel, by decide +kernel⟩
theorem go_checked (T : Txt K mg) : Go P w K mg base "checked" ["monoid"] 1 (spChecked K) := by
  obtain ⟨fd, F⟩ := T.fn 16
  refine ⟨_, fd, T.g_checked, F.kp, F.bindsN (fun _ _ _ _ _ _ us hl => match us, hl with | [_], _ => rfl), okN F sc_d_checked (fun vs H Q E h => by
    obtain ⟨_, _, _, rfl, _⟩ := h
    rfl) (fun cdv A outer s H vs Q E rm h => ?_)⟩
  obtain ⟨m, dx, fs, rfl, hm, q⟩ := h
  refine ⟨_, (pss_cons (ps_if (pt_not (pt_val (pe_callB (C8.call_isC T.insC) (by rfl) T.n_isinstance (by decide +kernel) (pa_cons (pv 0) (pa_cons (pe_glob (v := .ref (CM K)) rfl T.g_Monoid rfl) pa_nil))))) (pss_one (ps_never)) pss_nil)
      (pss_one (ps_ret (pv 0)))), ?_⟩
  refine ⟨_, rfl, _, _, _, rfl, hm, true, rfl, ?_⟩
  exact ⟨_, rfl, q⟩
/-- a monoid's size -/
def spSize (P : Program) (w : World) (K : PySem.W.Frag) : Sp := fun vs H Q _ => ∃ m T, vs = [.ref m] ∧ MonAt P w (CM K) H m T ∧ Q (nv T.length) H
theorem sc_dM_size : FnScope ["self"] ["self"] dM_size.scope := ⟨rfl, rfl, rfl, by decide +kernel, rfl, by decide +kernel, by decide +kernel⟩
theorem go_size (T : Txt K mg) : GoM P w K mg base "size" ["self"] 1 (spSize P w K) := by
  obtain ⟨fd, F⟩ := T.fn 9
  refine ⟨fd, F.bindsN (fun _ _ _ _ _ _ us hl => match us, hl with | [_], _ => rfl), okN F sc_dM_size (fun vs H Q E h => by
    obtain ⟨_, _, rfl, _⟩ := h
    rfl) (fun cdv A outer s H vs Q E rm h => ?_)⟩
  obtain ⟨m, S, rfl, ⟨_, dx, r, t, l, d, hM, _⟩, q⟩ := h
  obtain ⟨rs, hr1, hr2⟩ := hM.right
  refine ⟨_, (pss_one (ps_ret (pe_callB call_len_seq (by rfl) T.n_len boot_len (pa_cons (pe_fld (pv 0) rfl) pa_nil)))), ?_⟩
  refine ⟨_, rfl, _, _, _, _, _, rfl, hM.ob, T.cl, T.no_right, rfl, ?_⟩
  refine ⟨_, _, rfl, .inr (SqT.of hr1), ?_⟩
  rw [paired_len hr2]
  exact q
def spLeft (P : Program) (w : World) (K : PySem.W.Frag) : Sp := fun vs H Q _ => ∃ m T, vs = [.ref m] ∧ MonAt P w (CM K) H m T ∧ ∀ l, TabT H l (leftsOf T) → Q (.ref l) H
theorem sc_dM_left : FnScope ["self"] ["self"] dM_left.scope := ⟨rfl, rfl, rfl, by decide +kernel, rfl, by decide +kernel, by decide +kernel⟩
theorem go_left (T : Txt K mg) : GoM P w K mg base "left" ["self"] 1 (spLeft P w K) := by
  obtain ⟨fd, F⟩ := T.fn 12
  refine ⟨fd, F.bindsN (fun _ _ _ _ _ _ us hl => match us, hl with | [_], _ => rfl), okN F sc_dM_left (fun vs H Q E h => by
    obtain ⟨_, _, rfl, _⟩ := h
    rfl) (fun cdv A outer s H vs Q E rm h => ?_)⟩
  obtain ⟨m, S, rfl, ⟨_, dx, r, t, l, d, hM, _⟩, q⟩ := h
  refine ⟨_, (pss_one (ps_ret (pe_fld (pv 0) rfl))), ?_⟩
  exact ⟨_, rfl, _, _, _, _, _, rfl, hM.ob, T.cl, T.no_lefts, rfl, q l hM.lefts⟩
def spCheckNumber (P : Program) (w : World) (K : PySem.W.Frag) : Sp := fun vs H Q _ => ∃ m T n, vs = [.ref m, nv n] ∧ MonAt P w (CM K) H m T ∧ n < T.length ∧ Q .non H
theorem sc_dM_check_number : FnScope ["self", "number"] ["self", "number"] dM_check_number.scope := ⟨rfl, rfl, rfl, by decide +kernel, rfl, by decide +kernel, by decide +kernel⟩
theorem go_check_number (T : Txt K mg) : GoM P w K mg base "check_number" ["self", "number"] 2 (spCheckNumber P w K) := by
  obtain ⟨fd, F⟩ := T.fn 8
  obtain ⟨f_is_number, fd_is_number, m_is_number, k_is_number, b_is_number, G_is_number⟩ := go_is_number (P := P) (w := w) (base := base)  T
  refine ⟨fd, F.bindsN (fun _ _ _ _ _ _ us hl => match us, hl with | [_, _], _ => rfl), okN F sc_dM_check_number (fun vs H Q E h => by
    obtain ⟨_, _, _, rfl, _⟩ := h
    rfl) (fun cdv A outer s H vs Q E rm h => ?_)⟩
  obtain ⟨m, S, n, rfl, ⟨_, dx, r, t, l, d, hM, _⟩, hn, q⟩ := h
  obtain ⟨rs, hr1, hr2⟩ := hM.right
  refine ⟨_, (pss_one (ps_if (PW.pt (pw_or (pt_not (pt_val (pe_call G_is_number (rm.mono (by decide)) rfl m_is_number k_is_number b_is_number .nil pass0 (pa_cons (pv 1) pa_nil)))) (pw_or1 (pt_not (pt_chain op_le op_lt pe_int (pv 1) (pe_callB call_len_seq (by rfl) T.n_len boot_len (pa_cons (pe_fld (pv 0) rfl) pa_nil))))))) (pss_one (ps_never)) pss_nil)), ?_⟩
  refine ⟨_, rfl, _, rfl, true, rfl, iteF rfl ?_⟩
  refine ⟨_, rfl, _, _, rfl, rfl, _, rfl, iteT (decide_eq_true (Int.natCast_nonneg n)) ?_⟩
  refine ⟨_, rfl, _, _, _, _, _, rfl, hM.ob, T.cl, T.no_right, rfl, ?_⟩
  refine ⟨_, _, rfl, .inr (SqT.of hr1), _, _, rfl, rfl, _, rfl, ?_⟩
  have hl : decide ((n : Int) < (rs.length : Nat)) = true := decide_eq_true (by rw [paired_len hr2]; omega)
  refine iteF (by rw [hl]; rfl) ?_
  exact q
def spIsNumberOf (P : Program) (w : World) (K : PySem.W.Frag) : Sp := fun vs H Q _ => ∃ m T n, vs = [.ref m, nv n] ∧ MonAt P w (CM K) H m T ∧ n < T.length ∧ Q (.bl true) H
theorem sc_d_is_number_of : FnScope ["monoid", "thing"] ["monoid", "thing"] d_is_number_of.scope := ⟨rfl, rfl, rfl, by decide +kernel, rfl, by decide +kernel, by decide +kernel⟩
theorem go_is_number_of (T : Txt K mg) : Go P w K mg base "is_number_of" ["monoid", "thing"] 2 (spIsNumberOf P w K) := by
  obtain ⟨fd, F⟩ := T.fn 17
  obtain ⟨f_is_number, fd_is_number, m_is_number, k_is_number, b_is_number, G_is_number⟩ := go_is_number (P := P) (w := w) (base := base)  T
  refine ⟨_, fd, T.g_is_number_of, F.kp, F.bindsN (fun _ _ _ _ _ _ us hl => match us, hl with | [_, _], _ => rfl), okN F sc_d_is_number_of (fun vs H Q E h => by
    obtain ⟨_, _, _, rfl, _⟩ := h
    rfl) (fun cdv A outer s H vs Q E rm h => ?_)⟩
  obtain ⟨m, S, n, rfl, ⟨_, dx, r, t, l, d, hM, _⟩, hn, q⟩ := h
  obtain ⟨rs, hr1, hr2⟩ := hM.right
  refine ⟨_, (pss_one (ps_ret (pe_and (pe_call G_is_number (rm.mono (by decide)) rfl m_is_number k_is_number b_is_number .nil pass0 (pa_cons (pv 1) pa_nil)) (pe_one (pe_chain op_le op_lt pe_int (pv 1) (pe_callB call_len_seq (by rfl) T.n_len boot_len (pa_cons (pe_fld (pv 0) rfl) pa_nil))))))), ?_⟩
  refine ⟨_, rfl, _, rfl, true, rfl, iteT rfl ?_⟩
  refine ⟨_, rfl, _, _, rfl, rfl, _, rfl, iteT (decide_eq_true (Int.natCast_nonneg n)) ?_⟩
  refine ⟨_, rfl, _, _, _, _, _, rfl, hM.ob, T.cl, T.no_right, rfl, ?_⟩
  refine ⟨_, _, rfl, .inr (SqT.of hr1), _, _, rfl, rfl, ?_⟩
  have hl : decide ((n : Int) < (rs.length : Nat)) = true := decide_eq_true (by rw [paired_len hr2]; omega)
  show Q (.bl (decide ((n : Int) < (rs.length : Nat)))) H
  rw [hl]
  exact q
def spCheckNumbers (P : Program) (w : World) (tb : Tbs) (K : PySem.W.Frag) : Sp := fun vs H Q _ => ∃ m T v l, vs = [.ref m, v] ∧ Okk tb (CM K) H ∧ MonAt P w (CM K) H m T ∧ RowO H v l ∧ (∀ x ∈ l, x < T.length) ∧ ∀ H', Ext P w tb (CM K) H H' → Q .non H'
theorem sc_d_check_numbers : FnScope ["monoid", "numbers", "place", "number"] ["monoid", "numbers"] d_check_numbers.scope := ⟨rfl, rfl, rfl, by decide +kernel, rfl, by decide +kernel, by decide +kernel⟩
theorem go_check_numbers (T : Txt K mg) : Go P w K mg base "check_numbers" ["monoid", "numbers"] 3 (spCheckNumbers P w tb K) := by
  obtain ⟨fd, F⟩ := T.fn 18
  obtain ⟨f_is_number_of, fd_is_number_of, m_is_number_of, k_is_number_of, b_is_number_of, G_is_number_of⟩ := go_is_number_of (P := P) (w := w) (base := base)  T
  obtain ⟨f_is_sequence, fd_is_sequence, m_is_sequence, k_is_sequence, b_is_sequence, G_is_sequence⟩ := go_is_sequence (P := P) (w := w) (base := base) (tb := tb) T
  refine ⟨_, fd, T.g_check_numbers, F.kp, F.bindsN (fun _ _ _ _ _ _ us hl => match us, hl with | [_, _], _ => rfl), okN F sc_d_check_numbers (fun vs H Q E h => by
    obtain ⟨_, _, _, _, rfl, _⟩ := h
    rfl) (fun cdv A outer s H vs Q E rm h => ?_)⟩
  obtain ⟨m, S, v, l, rfl, ok, hM, hv, hl, q⟩ := h
  refine ⟨_, (pss_cons (ps_if (pt_not (pt_val (pe_call G_is_sequence (rm.mono (by decide)) rfl m_is_sequence k_is_sequence b_is_sequence .nil pass0 (pa_cons (pv 1) pa_nil)))) (pss_one (ps_never)) pss_nil)
      (pss_one (ps_for PassesOwn.never rfl (pi_enumA (by rfl) T.n_enumerate (pa_cons (pv 1) pa_nil)) (pg_tup (n := 2) rfl (pgs_cons (pg_name (i := 2) sc_d_check_numbers.nd rfl (Or.inl rfl)) (pgs_cons (pg_name (i := 3) sc_d_check_numbers.nd rfl (Or.inl rfl)) pgs_nil)))
      (pss_one (ps_if (pt_not (pt_val (pe_call G_is_number_of (rm.mono (by decide)) rfl m_is_number_of k_is_number_of b_is_number_of .nil pass0 (pa_cons (pv 0) (pa_cons (pv 3) pa_nil))))) (pss_one (ps_never)) pss_nil))))), ?_⟩
  obtain ⟨a, rfl, hv⟩ := hv
  refine ⟨_, rfl, _, _, rfl, ⟨a, rfl, hv⟩, fun H1 e1 => ⟨true, rfl, iteF rfl ?_⟩⟩
  have hv1 : H1 a = some (.tup (nvs l)) ∨ H1 a = some (.lst (nvs l)) := hv.elim (fun z => .inl (e1.tup z)) fun z => .inr (e1.lst z)
  refine ⟨_, rfl, en_for hv1 (fun i σ H' => ∃ y2 y3, σ = [some (.ref m), some (.ref a), y2, y3] ∧ Ext P w tb (CM K) H H') ⟨_, _, rfl, e1⟩ (fun i σ H' ⟨_, _, _, e⟩ => ?_) (fun t σ H' T' x hx ⟨_, _, es, e⟩ hT => ?_) fun σ H' ⟨_, _, _, e⟩ => q H' e⟩
  · rcases hv with z | z
    · rw [e.tup z, e1.tup z]
    · rw [e.lst z, e1.lst z]
  · subst es
    rw [nvs_get] at hx
    obtain ⟨n, hn, rfl⟩ := Option.map_eq_some_iff.mp hx
    have e' := e.trans (Ext.new (P := P) (w := w) (tb := tb) (C := CM K) (o := .tup [nv t, nv n]) hT)
    exact ⟨_, rfl, _, rfl, _, _, _, rfl, e'.mon ok _ _ hM, hl n (List.mem_of_getElem? hn), true, rfl, iteF rfl ⟨_, _, rfl, e'⟩⟩
end
end K95
set_option Elab.async false
set_option linter.all false
set_option maxRecDepth 100000
set_option maxHeartbeats 4000000
set_option autoImplicit false
namespace K95
open PySem PySem.Spec PyProof.Rows L2
section
variable {P : Program} {w : World} {tb : Tbs} {K : PySem.W.Frag} {mg : Str → Option Value} {base : Heap}
def spCheckForm (P : Program) (w : World) (tb : Tbs) (K : PySem.W.Frag) : Sp := fun vs H Q _ => ∃ v T n k, vs = [v] ∧ TabO H v T ∧ Form T n k ∧ ∀ H', Ext P w tb (CM K) H H' → Q .non H'
theorem sc_d_check_form : FnScope ["right", "place", "row", "number"] ["right"] d_check_form.scope := ⟨rfl, rfl, rfl, by decide +kernel, rfl, by decide +kernel, by decide +kernel⟩
theorem go_check_form (T : Txt K mg) : Go P w K mg base "check_form" ["right"] 2 (spCheckForm P w tb K) := by
  obtain ⟨fd, F⟩ := T.fn 2
  obtain ⟨f_is_number, fd_is_number, m_is_number, k_is_number, b_is_number, G_is_number⟩ := go_is_number (P := P) (w := w) (base := base)  T
  obtain ⟨t_MOST_LETTERS_monoids, h_MOST_LETTERS_monoids⟩ := T.i_MOST_LETTERS_monoids
  obtain ⟨f_is_sequence, fd_is_sequence, m_is_sequence, k_is_sequence, b_is_sequence, G_is_sequence⟩ := go_is_sequence (P := P) (w := w) (base := base) (tb := tb) T
  obtain ⟨t_MOST_ELEMENTS_monoids, h_MOST_ELEMENTS_monoids⟩ := T.i_MOST_ELEMENTS_monoids
  refine ⟨_, fd, T.g_check_form, F.kp, F.bindsN (fun _ _ _ _ _ _ us hl => match us, hl with | [_], _ => rfl), okN F sc_d_check_form (fun vs H Q E h => by
    obtain ⟨_, _, _, _, rfl, _⟩ := h
    rfl) (fun cdv A outer s H vs Q E rm h => ?_)⟩
  obtain ⟨v, T', n, k, rfl, ⟨rs, ⟨a, rfl, hv⟩, hr⟩, hF, q⟩ := h
  refine ⟨_, (pss_cons (ps_if (PW.pt (pw_or (pt_not (pt_val (pe_call G_is_sequence (rm.mono (by decide)) rfl m_is_sequence k_is_sequence b_is_sequence .nil pass0 (pa_cons (pv 0) pa_nil)))) (pw_or1 (pt_not (pt_chain op_le op_le pe_int (pe_callB call_len_seq (by rfl) T.n_len boot_len (pa_cons (pv 0) pa_nil)) (pe_glob (v := .int 2000) rfl h_MOST_ELEMENTS_monoids ⟨_, rfl⟩)))))) (pss_one (ps_never)) pss_nil)
      (pss_one (ps_for PassesOwn.never rfl (pi_enumA (by rfl) T.n_enumerate (pa_cons (pv 0) pa_nil)) (pg_tup (n := 2) rfl (pgs_cons (pg_name (i := 1) sc_d_check_form.nd rfl (Or.inl rfl)) (pgs_cons (pg_name (i := 2) sc_d_check_form.nd rfl (Or.inl rfl)) pgs_nil)))
      (pss_cons (ps_if (PW.pt (pw_or (pt_not (pt_val (pe_call G_is_sequence (rm.mono (by decide)) rfl m_is_sequence k_is_sequence b_is_sequence .nil pass0 (pa_cons (pv 2) pa_nil)))) (pw_or (pt_not (pt_chain op_le op_le pe_int (pe_callB call_len_seq (by rfl) T.n_len boot_len (pa_cons (pv 2) pa_nil)) (pe_glob (v := .int 6) rfl h_MOST_LETTERS_monoids ⟨_, rfl⟩))) (pw_or1 (pt_cmpR (op_ne) (pe_callB call_len_seq (by rfl) T.n_len boot_len (pa_cons (pv 2) pa_nil)) (pe_callB call_len_seq (by rfl) T.n_len boot_len (pa_cons (pe_ix ix_seq (pv 0) pe_int (fun _ _ => rfl)) pa_nil)) (nomark _)))))) (pss_one (ps_never)) pss_nil)
      (pss_one (ps_if (pt_not (pt_val (pe_callB (cr_all rfl) (by rfl) T.n_all boot_all (pa_cons (pe_lc (own := [("number", 3)]) (g := gName 3) rfl sc_d_check_form.nd (pi_or (pi_list (pv 2)) (pi_tup (pv 2))) (blkOk_by (N := ["right", "place", "row", "number"]) (sc := d_check_form.scope) (by decide +kernel)) (fun _ _ _ _ _ => (pg_name (i := 3) sc_d_check_form.nd rfl (Or.inl rfl))) (fun _ _ _ _ _ => pts_nil) (fun _ _ _ _ _ => pe_c (pe_and (pe_call G_is_number (rm.mono (by decide)) rfl m_is_number k_is_number b_is_number .nil pass0 (pa_cons (pv 3) pa_nil)) (pe_one (pe_chain op_le op_lt pe_int (pv 3) (pe_callB call_len_seq (by rfl) T.n_len boot_len (pa_cons (pv 0) pa_nil))))))) pa_nil)))) (pss_one (ps_never)) pss_nil)))))), ?_⟩
  have hlen : rs.length = n := by rw [paired_len hr, hF.len]
  have seqL : ∀ {H'}, Ext P w tb (CM K) H H' → SqL K H' a rs ∨ SqT K H' a rs := fun e => hv.elim (fun z => .inr (SqT.of (e.tup z))) fun z => .inl (SqL.of (e.lst z))
  have n1 := hF.n1
  have n2 := hF.n2
  have k1 := hF.k1
  have k2 := hF.k2
  -- is_sequence(right), the length
  refine ⟨_, rfl, _, _, rfl, ⟨a, rfl, hv⟩, fun H1 e1 => ⟨true, rfl, iteF rfl ?_⟩⟩
  refine ⟨_, rfl, _, _, rfl, seqL e1, _, _, rfl, rfl, _, rfl, iteT (decide_eq_true (by rw [hlen]; omega)) ?_⟩
  refine ⟨_, _, rfl, rfl, _, rfl, ?_⟩
  refine iteF (by rw [decide_eq_true (by rw [hlen]; omega)]; rfl) ?_
  have hv1 : H1 a = some (.tup rs) ∨ H1 a = some (.lst rs) := hv.elim (fun z => .inl (e1.tup z)) fun z => .inr (e1.lst z)
  have h0 : ∃ r0, T'[0]? = some r0 := by
    obtain ⟨r, h, _⟩ := hF.at (x := 0) (by omega)
    exact ⟨r, h⟩
  obtain ⟨r0, h0⟩ := h0
  obtain ⟨v0, g0, hrow0⟩ := paired_get hr h0
  refine ⟨_, rfl, en_for hv1 (fun i σ H' => ∃ y1 y2, σ = [some (.ref a), y1, y2, none] ∧ Ext P w tb (CM K) H H') ⟨_, _, rfl, e1⟩ (fun i σ H' ⟨_, _, _, e⟩ => ?_) (fun t σ H' T2 x hx ⟨_, _, es, e⟩ hT => ?_) fun σ H' ⟨_, _, _, e⟩ => q H' e⟩
  · rcases hv with z | z
    · rw [e.tup z, e1.tup z]
    · rw [e.lst z, e1.lst z]
  · subst es
    obtain ⟨row, gr, hrow⟩ := paired_get' hr hx
    have e' := e.trans (Ext.new (P := P) (w := w) (tb := tb) (C := CM K) (o := .tup [nv t, x]) hT)
    obtain ⟨b, rfl, hb⟩ := hrow
    have kl := hF.row t row gr
    have kl0 := hF.row 0 r0 h0
    have hb' : SeqA _ b _ := SeqA.ext e' hb
    refine ⟨_, rfl, _, _, rfl, ⟨b, rfl, hb'⟩, fun H3 e3 => ⟨true, rfl, iteF rfl ?_⟩⟩
    have e4 := e'.trans e3
    refine ⟨_, rfl, _, _, rfl, SeqA.sq (SeqA.ext e3 hb'), _, _, rfl, rfl, _, rfl, iteT (decide_eq_true (by rw [nvs_len]; omega)) ?_⟩
    refine ⟨_, _, rfl, rfl, _, rfl, ?_⟩
    refine iteF (by rw [decide_eq_true (by rw [nvs_len]; omega)]; rfl) ?_
    refine ⟨_, rfl, _, _, rfl, SeqA.sq (SeqA.ext e3 hb'), ?_⟩
    have hb0 := hrow0
    obtain ⟨b0, rfl, hb0⟩ := hb0
    refine ⟨_, rfl, rIx_seq (i := 0) (SeqA.ext e4 hv) g0 ?_⟩
    refine ⟨_, _, rfl, SeqA.sq (SeqA.ext e4 hb0), ?_⟩
    refine ⟨rfl, _, rfl, ?_⟩
    refine iteF (by rw [nvs_len, nvs_len, kl, kl0]; simp) ?_
    refine lc_seq (P := P) (w := w) (tb := tb) (C := CM K) ?_ (SeqA.ext e3 hb') (fun _ _ y _ => y = .bl true) (fun D => stab_val fun _ => .bl true) (by rw [nvs_len]; omega) (fun _ => ?_) (fun D i x H5 acc hx5 e5 hD hac Qk qk => ?_) (fun D H5 ys hD e5 hy hl hr5 => ?_)
    · rfl
    · rfl
    · rw [nvs_get] at hx5
      obtain ⟨o, ho, rfl⟩ := Option.map_eq_some_iff.mp hx5
      have ho' := hF.ent t row gr o (List.mem_of_getElem? ho)
      refine ⟨_, rfl, _, rfl, true, rfl, iteT rfl ?_⟩
      refine ⟨_, rfl, _, _, rfl, rfl, _, rfl, iteT (decide_eq_true (Int.natCast_nonneg o)) ?_⟩
      refine ⟨_, rfl, _, _, rfl, SeqA.sq (SeqA.ext (e4.trans e5) hv), _, _, rfl, rfl, ?_⟩
      refine qk _ _ (.refl _) ?_
      show V.bl (decide ((o : Int) < (rs.length : Nat))) = .bl true
      rw [decide_eq_true (by rw [hlen]; omega)]
    · refine ⟨D, List.replicate row.length true, rfl, ?_, ?_⟩
      · have e6 := list_same (v := V.bl true) hl hr5
        rw [nvs_len] at e6
        rw [e6] at hy
        rw [List.map_replicate]
        exact SqL.of hy
      · refine ⟨_, rfl, iteF (by simp) ⟨_, _, rfl, e4.trans e5⟩⟩
def spCheckOrder (P : Program) (w : World) (tb : Tbs) (K : PySem.W.Frag) : Sp := fun vs H Q _ => ∃ a T n k, vs = [.ref a] ∧ TabT H a T ∧ Ordd T n k ∧ ∀ H', Ext P w tb (CM K) H H' → Q .non H'
theorem sc_d_check_order : FnScope ["right", "met", "number", "row", "other"] ["right"] d_check_order.scope := ⟨rfl, rfl, rfl, by decide +kernel, rfl, by decide +kernel, by decide +kernel⟩
theorem go_check_order (T : Txt K mg) : Go P w K mg base "check_order" ["right"] 1 (spCheckOrder P w tb K) := by
  obtain ⟨fd, F⟩ := T.fn 3
  refine ⟨_, fd, T.g_check_order, F.kp, F.bindsN (fun _ _ _ _ _ _ us hl => match us, hl with | [_], _ => rfl), okN F sc_d_check_order (fun vs H Q E h => by
    obtain ⟨_, _, _, _, rfl, _⟩ := h
    rfl) (fun cdv A outer s H vs Q E rm h => ?_)⟩
  obtain ⟨a, T', n, k, rfl, ⟨rs, hv, hr⟩, hF, q⟩ := h
  refine ⟨_, (pss_cons (ps_set (i := 1) sc_d_check_order.nd rfl (Or.inl rfl) pe_int)
      (pss_one (ps_for PassesOwn.never rfl (pi_enumA (by rfl) T.n_enumerate (pa_cons (pv 0) pa_nil)) (pg_tup (n := 2) rfl (pgs_cons (pg_name (i := 2) sc_d_check_order.nd rfl (Or.inl rfl)) (pgs_cons (pg_name (i := 3) sc_d_check_order.nd rfl (Or.inl rfl)) pgs_nil)))
      (pss_cons (ps_if (pt_cmpR (op_ge) (pv 2) (pv 1) (nomark _)) (pss_one (ps_never)) pss_nil)
      (pss_one (ps_for PassesOwn.never rfl (pi_tup (pv 3)) (pg_name (i := 4) sc_d_check_order.nd rfl (Or.inl rfl))
      (pss_cons (ps_if (pt_cmpR (op_gt) (pv 4) (pv 1) (nomark _)) (pss_one (ps_never)) pss_nil)
      (pss_one (ps_set (i := 1) sc_d_check_order.nd rfl (Or.inl rfl) (pe_op op_add (pv 1) (pe_callTy call_int1 (by rfl) T.n_int boot_int (pa_cons (pe_cmpR op_eq (pv 4) (pv 1) (nomark _)) pa_nil)))))))))))), ?_⟩
  refine ⟨_, rfl, en_for (xs := rs) (.inl hv) (fun i σ H' => ∃ met y2 y3 y4, σ = [some (.ref a), some (nv met), y2, y3, y4] ∧ scan i met (T'.drop i) = some n ∧ Ext P w tb (CM K) H H') ⟨1, _, _, _, rfl, hF.ord, .refl _⟩ (fun i σ H' ⟨_, _, _, _, _, _, e⟩ => by rw [e.tup hv, hv]) (fun t σ H' T2 x hx ⟨met, _, _, _, es, hs, e⟩ hT => ?_) fun σ H' ⟨_, _, _, _, _, _, e⟩ => q H' e⟩
  subst es
  obtain ⟨row, gr, b, rfl, hb⟩ := paired_get' hr hx
  have e' := e.trans (Ext.new (P := P) (w := w) (tb := tb) (C := CM K) (o := .tup [nv t, .ref b]) hT)
  rw [drop_get gr] at hs
  obtain ⟨h1, m, h2, h3⟩ := scan_step hs
  refine ⟨_, rfl, _, rfl, _, _, rfl, rfl, _, rfl, iteF (decide_eq_false (by omega)) ?_⟩
  refine ⟨_, rfl, b, rfl, ⟨_, SqT.of (e'.tup hb)⟩, for_it (walk_tup (xs := nvs row)) (fun j σ H' => ∃ met y4, σ = [some (.ref a), some (nv met), some (nv t), some (.ref b), y4] ∧ scanRow met (row.drop j) = some m ∧ Ext P w tb (CM K) H H') ⟨met, _, rfl, h2, e'⟩ (fun j σ H' _ ⟨_, _, _, _, e⟩ => SqT.of (e.tup hb)) (fun j x σ H' H6 hj ⟨met, y4, es, hs, e⟩ hy => ?_) fun σ H' ⟨met, y4, es, hs, e⟩ => ?_⟩
  · obtain ⟨rfl, hx'⟩ := hy
    subst es
    rw [nvs_get] at hx'
    obtain ⟨o, ho, rfl⟩ := Option.map_eq_some_iff.mp hx'
    rw [drop_get ho] at hs
    obtain ⟨g1, g2⟩ := scanRow_step hs
    refine ⟨_, rfl, _, rfl, _, _, rfl, rfl, _, rfl, iteF (decide_eq_false (by omega)) ?_⟩
    refine ⟨_, rfl, _, rfl, _, rfl, rfl, .inr ⟨_, rfl, _, _, rfl, rfl, ?_⟩⟩
    refine ⟨if o = met then met + 1 else met, some (nv o), ?_, g2, e⟩
    by_cases hom : o = met
    · subst hom
      simp [nv]
    · have : V.int (o : Int) ≠ V.int (met : Int) := fun z => hom (by have := V.int.inj z; omega)
      simp [nv, hom, this]
  · subst es
    rw [nvs_len, List.drop_length] at hs
    have em : met = m := Option.some.inj hs
    exact ⟨met, _, _, _, rfl, by rw [em]; exact h3, e⟩
end
end K95
set_option Elab.async false
set_option linter.all false
set_option maxRecDepth 100000
set_option maxHeartbeats 4000000
set_option autoImplicit false
namespace K95
open PySem PySem.Spec PyProof.Rows L2
section
variable {P : Program} {w : World} {tb : Tbs} {K : PySem.W.Frag} {mg : Str → Option Value} {base : Heap}
def spTreeOf (P : Program) (w : World) (tb : Tbs) (K : PySem.W.Frag) : Sp := fun vs H Q _ => ∃ a T n k, vs = [.ref a] ∧ TabT H a T ∧ Form T n k ∧ ∀ H' p, Ext P w tb (CM K) H H' → TreeL H' p T → Q (.ref p) H'
theorem sc_d_tree_of : FnScope ["right", "found", "number", "row", "letter", "other"] ["right"] d_tree_of.scope := ⟨rfl, rfl, rfl, by decide +kernel, rfl, by decide +kernel, by decide +kernel⟩
theorem go_tree_of (T : Txt K mg) : Go P w K mg base "tree_of" ["right"] 1 (spTreeOf P w tb K) := by
  obtain ⟨fd, F⟩ := T.fn 4
  refine ⟨_, fd, T.g_tree_of, F.kp, F.bindsN (fun _ _ _ _ _ _ us hl => match us, hl with | [_], _ => rfl), okN F sc_d_tree_of (fun vs H Q E h => by
    obtain ⟨_, _, _, _, rfl, _⟩ := h
    rfl) (fun cdv A outer s H vs Q E rm h => ?_)⟩
  obtain ⟨a, T', n, k, rfl, ⟨rs, hv, hr⟩, hF, q⟩ := h
  refine ⟨_, (pss_cons (ps_set (i := 1) sc_d_tree_of.nd rfl (Or.inl rfl) (pe_lst (pa_cons pe_non pa_nil)))
      (pss_cons (ps_for PassesOwn.never rfl (pi_enumA (by rfl) T.n_enumerate (pa_cons (pv 0) pa_nil)) (pg_tup (n := 2) rfl (pgs_cons (pg_name (i := 2) sc_d_tree_of.nd rfl (Or.inl rfl)) (pgs_cons (pg_name (i := 3) sc_d_tree_of.nd rfl (Or.inl rfl)) pgs_nil)))
      (pss_one (ps_for PassesOwn.never rfl (pi_enumA (by rfl) T.n_enumerate (pa_cons (pv 3) pa_nil)) (pg_tup (n := 2) rfl (pgs_cons (pg_name (i := 4) sc_d_tree_of.nd rfl (Or.inl rfl)) (pgs_cons (pg_name (i := 5) sc_d_tree_of.nd rfl (Or.inl rfl)) pgs_nil)))
      (pss_one (ps_if (pt_cmpR (op_eq) (pv 5) (pe_callB call_len_seq (by rfl) T.n_len boot_len (pa_cons (pv 1) pa_nil)) (nomark _)) (pss_one (ps_expr (pe_bm PySem.F.plainAttrs_list PySem.F.slot_list_append PySem.F.type_list_append mt_append (pv 1) (pa_cons (pe_tup (pa_cons (pv 2) (pa_cons (pv 4) pa_nil))) pa_nil)))) pss_nil)))))
      (pss_one (ps_ret (pv 1))))), ?_⟩
  refine ⟨(by show 1 ≤ sizeLine; decide), fun p hp => ?_⟩
  have e0 : Ext P w tb (CM K) H (upd H p (.lst [.non])) := .new hp
  have nw : Nw H p := .of hp
  refine ⟨_, rfl, en_for (xs := rs) (.inl (e0.tup hv)) (fun i σ H' => ∃ y2 y3 y4 y5 acc vs, σ = [some (.ref a), some (.ref p), y2, y3, y4, y5] ∧ H' p = some (.lst (.non :: vs)) ∧ Paired (PairTup H') vs acc ∧ acc.length ≤ 6 * i ∧ treeFrom i (T'.drop i) acc = treeOf T' ∧ Ext P w tb (CM K) H H')
    ⟨_, _, _, _, [], [], rfl, upd_same, .nil, by simp, rfl, e0⟩ (fun i σ H' ⟨_, _, _, _, _, _, _, _, _, _, _, e⟩ => by rw [e.tup hv, e0.tup hv]) (fun t σ H' T2 x hx ⟨_, _, _, _, acc, vs, es, hl, hpd, hlen, htr, e⟩ hT => ?_) fun σ H' ⟨_, _, _, _, acc, vs, es, hl, hpd, hlen, htr, e⟩ => ?_⟩
  · subst es
    obtain ⟨row, gr, b, rfl, hb⟩ := paired_get' hr hx
    have en := Ext.new (P := P) (w := w) (tb := tb) (C := CM K) (o := .tup [nv t, .ref b]) hT
    have e' := e.trans en
    rw [drop_get gr] at htr
    have ht : t < n := by
      have := (List.getElem?_eq_some_iff.mp gr).1
      rw [hF.len] at this
      exact this
    have n2 := hF.n2
    have k2 := hF.k2
    have hk := hF.row t row gr
    refine ⟨_, rfl, en_for (xs := nvs row) (.inl (e'.tup hb)) (fun i σ H' => ∃ y4 y5 acc' vs', σ = [some (.ref a), some (.ref p), some (nv t), some (.ref b), y4, y5] ∧ H' p = some (.lst (.non :: vs')) ∧ Paired (PairTup H') vs' acc' ∧ acc'.length ≤ acc.length + i ∧ treeRow t i (row.drop i) acc' = treeRow t 0 row acc ∧ Ext P w tb (CM K) H H')
      ⟨_, _, acc, vs, rfl, en.lst hl, Paired.mapP hpd fun _ _ z => z.ext en, by omega, rfl, e'⟩ (fun i σ H' ⟨_, _, _, _, _, _, _, _, _, e⟩ => by rw [e.tup hb, e'.tup hb]) (fun c σ H' T2 x hx ⟨_, _, acc', vs', es, hl', hpd', hlen', htr', e⟩ hT => ?_) fun σ H' ⟨_, _, acc', vs', es, hl', hpd', hlen', htr', e⟩ => ?_⟩
    · subst es
      rw [nvs_get] at hx
      obtain ⟨o, ho, rfl⟩ := Option.map_eq_some_iff.mp hx
      rw [drop_get ho] at htr'
      have hc : c < k := by
        have := (List.getElem?_eq_some_iff.mp ho).1
        omega
      have en2 := Ext.new (P := P) (w := w) (tb := tb) (C := CM K) (o := .tup [nv c, nv o]) hT
      have e2 := e.trans en2
      have hll : (V.non :: vs').length = acc'.length + 1 := by rw [List.length_cons, paired_len hpd']
      refine ⟨_, rfl, _, rfl, p, _, rfl, .inl (SqL.of (en2.lst hl')), rfl, _, rfl, ?_⟩
      rw [hll]
      refine ite2 (fun hd => ?_) fun hd => ?_
      · have ho1 : o = acc'.length + 1 := by
          have := V.int.inj (of_decide_eq_true hd)
          omega
        refine ⟨_, rfl, .inl ⟨rfl, _, SqL.of (en2.lst hl')⟩, ?_⟩
        refine ⟨_, rfl, _, rfl, (by show 2 ≤ sizeLine; decide), fun q3 hq3 => ?_⟩
        have en3 := Ext.new (P := P) (w := w) (tb := tb) (C := CM K) (o := .tup [nv t, nv c]) hq3
        have e3 := e2.trans en3
        have hl3 := en3.lst (en2.lst hl')
        refine ⟨p, _, _, rfl, rfl, hl3, line_of (by rw [hll]; omega), ?_⟩
        refine ⟨_, _, acc' ++ [(t, c)], vs' ++ [.ref q3], rfl, upd_same, ?_, by simp; omega, ?_, e3.mut nw hl3 rfl⟩
        · refine paired_app (Paired.mapP hpd' fun _ _ z => ((z.ext en2).ext en3).kp hl3 Kp.upd) (.cons ⟨q3, rfl, ?_⟩ .nil)
          rw [upd_ne (ne_of upd_same hl3 fun z => by cases z)]
          exact upd_same
        · rw [← htr']
          show treeRow t (c + 1) (row.drop (c + 1)) (acc' ++ [(t, c)]) = treeRow t (c + 1) (row.drop (c + 1)) (if o = acc'.length + 1 then acc' ++ [(t, c)] else acc')
          rw [if_pos ho1]
      · have ho1 : ¬ o = acc'.length + 1 := fun z => by
          subst z
          exact absurd (decide_eq_true (rfl : V.int ((acc'.length + 1 : Nat) : Int) = _)) (by rw [← Bool.not_eq_true] at hd; exact hd)
        refine ⟨_, _, acc', vs', rfl, en2.lst hl', Paired.mapP hpd' fun _ _ z => z.ext en2, by omega, ?_, e2⟩
        rw [← htr']
        show treeRow t (c + 1) (row.drop (c + 1)) acc' = treeRow t (c + 1) (row.drop (c + 1)) (if o = acc'.length + 1 then acc' ++ [(t, c)] else acc')
        rw [if_neg ho1]
    · subst es
      rw [nvs_len] at hlen'
      rw [nvs_len, List.drop_length] at htr'
      refine ⟨_, _, _, _, acc', vs', rfl, hl', hpd', by omega, ?_, e⟩
      rw [← htr]
      show treeFrom (t + 1) (T'.drop (t + 1)) acc' = treeFrom (t + 1) (T'.drop (t + 1)) (treeRow t 0 row acc)
      rw [← htr'] <;> rfl
  · subst es
    refine ⟨_, rfl, q H' p e ⟨vs, hl, ?_⟩⟩
    have hlr : rs.length = T'.length := paired_len hr
    rw [hlr, List.drop_length] at htr
    rw [← htr]
    exact hpd
def spLeftOf (P : Program) (w : World) (tb : Tbs) (K : PySem.W.Frag) : Sp := fun vs H Q _ => ∃ a b T n k, vs = [.ref a, .ref b] ∧ TabT H a T ∧ TreeL H b T ∧ Ordd T n k ∧ ∀ H' p, Ext P w tb (CM K) H H' → TabT H' p (leftsOf T) → Q (.ref p) H'
theorem sc_d_left_of : FnScope ["right", "tree", "found", "ahead", "letter", "number"] ["right", "tree"] d_left_of.scope := ⟨rfl, rfl, rfl, by decide +kernel, rfl, by decide +kernel, by decide +kernel⟩
theorem go_left_of (T : Txt K mg) : Go P w K mg base "left_of" ["right", "tree"] 1 (spLeftOf P w tb K) := by
  obtain ⟨fd, F⟩ := T.fn 5
  refine ⟨_, fd, T.g_left_of, F.kp, F.bindsN (fun _ _ _ _ _ _ us hl => match us, hl with | [_, _], _ => rfl), okN F sc_d_left_of (fun vs H Q E h => by
    obtain ⟨_, _, _, _, _, rfl, _⟩ := h
    rfl) (fun cdv A outer s H vs Q E rm h => ?_)⟩
  obtain ⟨a, b, T', n, k, rfl, ⟨rs, hv, hr⟩, ⟨ts, ht, htr⟩, hF, q⟩ := h
  refine ⟨_, (pss_cons (ps_set (i := 2) sc_d_left_of.nd rfl (Or.inl rfl) (pe_lst (pa_cons (pe_callTy call_tuple_of (by rfl) T.n_tuple boot_tuple (pa_cons (pe_ix ix_tup (pv 0) pe_int (fun _ _ => rfl)) pa_nil)) pa_nil)))
      (pss_cons (ps_for PassesOwn.never rfl (pi_list (pe_slice sl_list (pv 1) (po_some pe_int) po_none)) (pg_tup (n := 2) rfl (pgs_cons (pg_name (i := 3) sc_d_left_of.nd rfl (Or.inl rfl)) (pgs_cons (pg_name (i := 4) sc_d_left_of.nd rfl (Or.inr rfl)) pgs_nil)))
      (pss_one (ps_expr (pe_bm PySem.F.plainAttrs_list PySem.F.slot_list_append PySem.F.type_list_append mt_append (pv 2) (pa_cons (pe_callTy call_tuple_of (by rfl) T.n_tuple boot_tuple (pa_cons (pe_lc (own := [("number", 5)]) (g := gName 5) rfl sc_d_left_of.nd (pi_tup (pe_ix ix_list (pv 2) (pv 3) (fun _ _ => rfl))) (blkOk_by (N := ["right", "tree", "found", "ahead", "letter", "number"]) (sc := d_left_of.scope) (by decide +kernel)) (fun _ _ _ _ _ => (pg_name (i := 5) sc_d_left_of.nd rfl (Or.inl rfl))) (fun _ _ _ _ _ => pts_nil) (fun _ _ _ _ _ => pe_c (pe_ix ix_tup (pe_ix ix_tup (pv 0) (pv 5) (fun _ _ => rfl)) (pv 4) (fun _ _ => rfl)))) pa_nil)) pa_nil)))))
      (pss_one (ps_ret (pe_callTy call_tuple_of (by rfl) T.n_tuple boot_tuple (pa_cons (pv 2) pa_nil)))))), ?_⟩
  have n1 := hF.form.n1
  have n2 := hF.form.n2
  have k2 := hF.form.k2
  obtain ⟨hT1, hT2⟩ := hF.tree_ok
  obtain ⟨row0, hr0, hk0, hd0⟩ := hF.form.at (x := 0) (by omega)
  obtain ⟨v0, g0, b0, rfl, hb0⟩ := paired_get hr hr0
  refine ⟨_, rfl, _, _, _, _, rfl, rfl, SqT.of hv, atI_nat (j := 0) g0, _, _, rfl, .inr ⟨SqT.of hb0, (by show 1 ≤ sizeLine; decide), fun p hp => ?_⟩⟩
  have e0 : Ext P w tb (CM K) H (upd H p (.lst [.ref b0])) := .new hp
  have nw : Nw H p := .of hp
  refine ⟨_, rfl, 1, rfl, b, _, rfl, SqL.of (e0.lst ht), fun c hc => ?_⟩
  rw [cut1]
  have ec := Ext.new (P := P) (w := w) (tb := tb) (C := CM K) (o := .lst ts) hc
  have e1 := e0.trans ec
  have hc1 : (upd (upd H p (.lst [.ref b0])) c (.lst ts)) c = some (.lst ts) := upd_same
  have hcp : c ≠ p := fun z => by rw [z, upd_same] at hc; cases hc
  refine ⟨c, rfl, ⟨_, SqL.of upd_same⟩, for_it (walk_list (xs := ts)) (fun i σ H' => ∃ y3 y4 acc vs, σ = [some (.ref a), some (.ref b), some (.ref p), y3, y4, none] ∧ H' p = some (.lst vs) ∧ H' c = some (.lst ts) ∧ Paired (IntTup H') vs acc ∧ acc.length = i + 1 ∧ (∀ l ∈ acc, l.length ≤ 6 ∧ ∀ x ∈ l, x < n) ∧ leftsFrom T' ((treeOf T').drop i) acc = leftsOf T' ∧ Ext P w tb (CM K) H H')
    ⟨_, _, [row0], [.ref b0], rfl, ec.lst upd_same, hc1, .cons ⟨b0, rfl, e1.tup hb0⟩ .nil, rfl, fun l hl => ?_, ?_, e1⟩ (fun i σ H' _ ⟨_, _, _, _, _, _, h, _⟩ => SqL.of h) (fun i x σ H' H6 hi ⟨_, _, acc, vs, es, hl, hcl, hpd, hlen, hlt, hlf, e⟩ hy => ?_) fun σ H' ⟨_, _, acc, vs, es, hl, hcl, hpd, hlen, hlt, hlf, e⟩ => ?_⟩
  · rw [List.mem_singleton.mp hl]
    exact ⟨by omega, hF.form.ent 0 row0 hr0⟩
  · show leftsFrom T' (treeOf T') [row0] = leftsFrom T' (treeOf T') [T'.getD 0 []]
    rw [hd0]
  · subst es
    obtain ⟨rfl, hx⟩ := hy
    obtain ⟨⟨ah, le⟩, hx', q1, rfl, hq1⟩ := paired_get' htr hx
    have hq1' := e.tup hq1
    obtain ⟨t1, t2, t3⟩ := hT1 i ah le hx'
    refine ⟨q1, _, rfl, SqT.of hq1', rfl, _, _, rfl, _, _, rfl, rfl, ?_⟩
    have hal : ah < acc.length := by omega
    obtain ⟨vl, gl, bl, rfl, hbl⟩ := paired_get hpd (List.getElem?_eq_getElem hal)
    obtain ⟨hl6, hln⟩ := hlt _ (List.getElem_mem hal)
    refine ⟨_, rfl, .inl ⟨rfl, _, SqL.of hl⟩, ?_⟩
    refine ⟨_, rfl, _, rfl, _, _, _, _, rfl, rfl, SqL.of hl, atI_nat gl, ?_⟩
    refine lc_t (P := P) (w := w) (tb := tb) (C := CM K) hbl (fun _ j y _ => y = nv (step T' (acc[ah].getD j 0) le)) (fun D => stab_val fun j => nv (step T' (acc[ah].getD j 0) le)) (by rw [nvs_len]; omega) (fun _ => ?_) (fun D j x H5 ac hx5 e5 hD hac Qk qk => ?_) (fun D H5 ys hD e5 hy hl5 hr5 => ?_)
    · rfl
    · rw [nvs_get] at hx5
      obtain ⟨o, ho, rfl⟩ := Option.map_eq_some_iff.mp hx5
      have hon := hln o (List.mem_of_getElem? ho)
      obtain ⟨r, hr1, hr2⟩ := hF.form.get hon t2
      obtain ⟨vv, gv, bv, rfl, hbv⟩ := paired_get hr hr1
      have e6 := e.trans e5
      refine ⟨_, rfl, _, rfl, _, _, _, _, rfl, rfl, SqT.of (e6.tup hv), atI_nat gv, ?_⟩
      refine ⟨_, rfl, _, _, _, _, rfl, rfl, SqT.of (e6.tup hbv), atI_nat (v := nv (step T' o le)) (by rw [nvs_get, hr2]; rfl), ?_⟩
      refine qk _ _ (.refl _) ?_
      rw [List.getD_eq_getElem?_getD, ho] <;> rfl
    · have eys : ys = nvs (acc[ah].map fun x => step T' x le) := nvs_map (by rw [hl5, nvs_len]) fun j y x hy hx => by
        rw [hr5 j y hy, List.getD_eq_getElem?_getD, hx] <;> rfl
      subst eys
      refine ⟨D, _, rfl, .inl ⟨SqL.of hy, fun q2 hq2 => ?_⟩⟩
      have e7 := Ext.new (P := P) (w := w) (tb := tb) (C := CM K) (o := .tup (nvs (acc[ah].map fun x => step T' x le))) hq2
      have e8 := e5.trans e7
      have hl8 := e8.lst hl
      refine ⟨p, _, _, rfl, rfl, hl8, line_of (by rw [paired_len hpd]; have := (List.getElem?_eq_some_iff.mp hx').1; omega), ?_⟩
      refine ⟨_, _, acc ++ [acc[ah].map fun x => step T' x le], _, rfl, upd_same, ?_, ?_, by simp; omega, fun l hl => ?_, ?_, (e.trans e8).mut nw hl8 rfl⟩
      · rw [upd_ne hcp]
        exact e8.lst hcl
      · refine paired_app (Paired.mapP hpd fun _ _ z => (z.ext e8).kp hl8 Kp.upd) (.cons ⟨q2, rfl, ?_⟩ .nil)
        rw [upd_ne (ne_of upd_same hl8 fun z => by cases z)]
        exact upd_same
      · rcases List.mem_append.mp hl with hl | hl
        · exact hlt l hl
        · rw [List.mem_singleton.mp hl]
          refine ⟨by simpa using hl6, fun x hx => ?_⟩
          obtain ⟨y, hy, rfl⟩ := List.mem_map.mp hx
          exact hF.form.step_lt (hln y hy) t2
      · rw [← hlf, drop_get hx']
        show _ = leftsFrom T' ((treeOf T').drop (i + 1)) (acc ++ [(acc.getD ah []).map fun x => step T' x le])
        rw [List.getD_eq_getElem?_getD, List.getElem?_eq_getElem hal] <;> rfl
  · subst es
    rw [paired_len htr, List.drop_length] at hlf
    have hlf' : acc = leftsOf T' := hlf
    subst hlf'
    refine ⟨_, rfl, _, _, rfl, .inl ⟨SqL.of hl, fun q2 hq2 => ?_⟩⟩
    have e7 := Ext.new (P := P) (w := w) (tb := tb) (C := CM K) (o := .tup vs) hq2
    exact q _ q2 (e.trans e7) ⟨vs, upd_same, Paired.mapP hpd fun _ _ z => z.ext e7⟩
end
end K95
set_option Elab.async false
set_option linter.all false
set_option maxRecDepth 100000
set_option maxHeartbeats 4000000
set_option autoImplicit false
namespace K95
open PySem PySem.Spec PyProof.Rows L2
section
variable {P : Program} {w : World} {tb : Tbs} {K : PySem.W.Frag} {mg : Str → Option Value} {base : Heap}
def spCheckProducts (P : Program) (w : World) (tb : Tbs) (K : PySem.W.Frag) : Sp := fun vs H Q _ => ∃ a b T n k, vs = [.ref a, .ref b] ∧ TabT H a T ∧ TabT H b (leftsOf T) ∧ Good T n k ∧ ∀ H', Ext P w tb (CM K) H H' → Q .non H'
theorem sc_d_check_products : FnScope ["right", "left", "number", "row", "letter", "other", "one"] ["right", "left"] d_check_products.scope := ⟨rfl, rfl, rfl, by decide +kernel, rfl, by decide +kernel, by decide +kernel⟩
theorem go_check_products (T : Txt K mg) : Go P w K mg base "check_products" ["right", "left"] 1 (spCheckProducts P w tb K) := by
  obtain ⟨fd, F⟩ := T.fn 6
  refine ⟨_, fd, T.g_check_products, F.kp, F.bindsN (fun _ _ _ _ _ _ us hl => match us, hl with | [_, _], _ => rfl), okN F sc_d_check_products (fun vs H Q E h => by
    obtain ⟨_, _, _, _, _, rfl, _⟩ := h
    rfl) (fun cdv A outer s H vs Q E rm h => ?_)⟩
  obtain ⟨a, b, T', n, k, rfl, ⟨rs, hv, hr⟩, ⟨ls, hlv, hlr⟩, hG, q⟩ := h
  refine ⟨_, (pss_one (ps_for PassesOwn.never rfl (pi_enumA (by rfl) T.n_enumerate (pa_cons (pv 0) pa_nil)) (pg_tup (n := 2) rfl (pgs_cons (pg_name (i := 2) sc_d_check_products.nd rfl (Or.inl rfl)) (pgs_cons (pg_name (i := 3) sc_d_check_products.nd rfl (Or.inl rfl)) pgs_nil)))
      (pss_one (ps_for PassesOwn.never rfl (pi_enumA (by rfl) T.n_enumerate (pa_cons (pv 3) pa_nil)) (pg_tup (n := 2) rfl (pgs_cons (pg_name (i := 4) sc_d_check_products.nd rfl (Or.inr rfl)) (pgs_cons (pg_name (i := 5) sc_d_check_products.nd rfl (Or.inl rfl)) pgs_nil)))
      (pss_one (ps_if (pt_cmpR (op_neD rm.units) (pe_ix ix_tup (pv 1) (pv 5) (fun _ _ => rfl)) (pe_callTy call_tuple_of (by rfl) T.n_tuple boot_tuple (pa_cons (pe_lc (own := [("one", 6)]) (g := gName 6) rfl sc_d_check_products.nd (pi_tup (pe_ix ix_tup (pv 1) (pv 2) (fun _ _ => rfl))) (blkOk_by (N := ["right", "left", "number", "row", "letter", "other", "one"]) (sc := d_check_products.scope) (by decide +kernel)) (fun _ _ _ _ _ => (pg_name (i := 6) sc_d_check_products.nd rfl (Or.inl rfl))) (fun _ _ _ _ _ => pts_nil) (fun _ _ _ _ _ => pe_c (pe_ix ix_tup (pe_ix ix_tup (pv 0) (pv 6) (fun _ _ => rfl)) (pv 4) (fun _ _ => rfl)))) pa_nil)) (nomark _)) (pss_one (ps_never)) pss_nil)))))), ?_⟩
  have hF := hG.form
  have n1 := hF.n1
  have n2 := hF.n2
  have k2 := hF.k2
  have hlen := hG.ordd.lefts_len
  refine ⟨_, rfl, en_for (xs := rs) (.inl hv) (fun i σ H' => ∃ y2 y3 y4 y5, σ = [some (.ref a), some (.ref b), y2, y3, y4, y5, none] ∧ Ext P w tb (CM K) H H')
    ⟨_, _, _, _, rfl, .refl _⟩ (fun i σ H' ⟨_, _, _, _, _, e⟩ => by rw [e.tup hv, hv]) (fun t σ H' T2 x hx ⟨_, _, _, _, es, e⟩ hT => ?_) fun σ H' ⟨_, _, _, _, es, e⟩ => q H' e⟩
  subst es
  obtain ⟨row, gr, c, rfl, hc⟩ := paired_get' hr hx
  have ht : t < n := by
    have := (List.getElem?_eq_some_iff.mp gr).1
    rw [hF.len] at this
    exact this
  have e' := e.trans (Ext.new (P := P) (w := w) (tb := tb) (C := CM K) (o := .tup [nv t, .ref c]) hT)
  refine ⟨_, rfl, en_for (xs := nvs row) (.inl (e'.tup hc)) (fun i σ H' => ∃ y4 y5, σ = [some (.ref a), some (.ref b), some (nv t), some (.ref c), y4, y5, none] ∧ Ext P w tb (CM K) H H')
    ⟨_, _, rfl, e'⟩ (fun i σ H' ⟨_, _, _, e⟩ => by rw [e.tup hc, e'.tup hc]) (fun le σ H' T2 x hx ⟨_, _, es, e⟩ hT => ?_) fun σ H' ⟨_, _, es, e⟩ => by subst es; exact ⟨_, _, _, _, rfl, e⟩⟩
  subst es
  have e2 := e.trans (Ext.new (P := P) (w := w) (tb := tb) (C := CM K) (o := .tup [nv le, x]) hT)
  rw [nvs_get] at hx
  obtain ⟨o, ho, rfl⟩ := Option.map_eq_some_iff.mp hx
  have hk := hF.row t row gr
  have hle : le < k := by
    have := (List.getElem?_eq_some_iff.mp ho).1
    omega
  have eo : o = step T' t le := by
    obtain ⟨r, h1, h2⟩ := hF.get ht hle
    rw [gr] at h1
    cases h1
    rw [ho] at h2
    exact Option.some.inj h2
  have hon : o < n := hF.ent t row gr o (List.mem_of_getElem? ho)
  have hol : o < (leftsOf T').length := by omega
  have htl : t < (leftsOf T').length := by omega
  obtain ⟨vl, gl, bl, rfl, hbl⟩ := paired_get hlr (List.getElem?_eq_getElem hol)
  obtain ⟨vm, gm, bm, rfl, hbm⟩ := paired_get hlr (List.getElem?_eq_getElem htl)
  have hln : ∀ x (hx : x < (leftsOf T').length), (leftsOf T')[x].length = k ∧ ∀ y ∈ (leftsOf T')[x], y < n := fun x hx => by
    have h1 := hG.ordd.left_eq (x := x) (by omega)
    rw [List.getD_eq_getElem?_getD, List.getElem?_eq_getElem hx, Option.getD_some] at h1
    rw [h1]
    refine ⟨by simp, fun y hy => ?_⟩
    obtain ⟨c, hc, rfl⟩ := List.mem_map.mp hy
    exact hF.run_lt (hF.step_lt (by omega) (List.mem_range.mp hc)) (hG.path_ok (by omega)).2
  refine ⟨_, rfl, _, rfl, _, _, _, _, rfl, rfl, SqT.of (e2.tup hlv), atI_nat gl, ?_⟩
  refine ⟨_, rfl, _, rfl, _, _, _, _, rfl, rfl, SqT.of (e2.tup hlv), atI_nat gm, ?_⟩
  refine lc_t (P := P) (w := w) (tb := tb) (C := CM K) (e2.tup hbm) (fun _ j y _ => y = nv (step T' ((leftsOf T')[t].getD j 0) le)) (fun D => stab_val fun j => nv (step T' ((leftsOf T')[t].getD j 0) le)) (by rw [nvs_len, (hln t htl).1]; omega) (fun _ => ?_) (fun D j x H5 ac hx5 e5 hD hac Qk qk => ?_) (fun D H5 ys hD e5 hy hl5 hr5 => ?_)
  · rfl
  · rw [nvs_get] at hx5
    obtain ⟨o', ho', rfl⟩ := Option.map_eq_some_iff.mp hx5
    have hon' := (hln t htl).2 o' (List.mem_of_getElem? ho')
    obtain ⟨r, hr1, hr2⟩ := hF.get hon' hle
    obtain ⟨vv, gv, bv, rfl, hbv⟩ := paired_get hr hr1
    have e6 := e2.trans e5
    refine ⟨_, rfl, _, rfl, _, _, _, _, rfl, rfl, SqT.of (e6.tup hv), atI_nat gv, ?_⟩
    refine ⟨_, rfl, _, _, _, _, rfl, rfl, SqT.of (e6.tup hbv), atI_nat (v := nv (step T' o' le)) (by rw [nvs_get, hr2]; rfl), ?_⟩
    refine qk _ _ (.refl _) ?_
    rw [List.getD_eq_getElem?_getD, ho'] <;> rfl
  · have eys : ys = nvs ((leftsOf T')[t].map fun x => step T' x le) := nvs_map (by rw [hl5, nvs_len]) fun j y x hy hx => by
      rw [hr5 j y hy, List.getD_eq_getElem?_getD, hx] <;> rfl
    subst eys
    have hp := hG.prod t le ht hle
    rw [← eo, List.getD_eq_getElem?_getD, List.getD_eq_getElem?_getD, List.getElem?_eq_getElem hol, List.getElem?_eq_getElem htl, Option.getD_some, Option.getD_some] at hp
    refine ⟨D, _, rfl, .inl ⟨SqL.of hy, fun q2 hq2 => ?_⟩⟩
    have e7 := e5.trans (Ext.new (P := P) (w := w) (tb := tb) (C := CM K) (o := .tup (nvs ((leftsOf T')[t].map fun x => step T' x le))) hq2)
    refine ⟨_, _, dp_tup ⟨bl, rfl, (e2.trans e7).tup hbl⟩, dp_tup ⟨q2, rfl, upd_same⟩, dT_shaped _, dT_shaped _, _, rfl, iteF ?_ ⟨_, _, rfl, e2.trans e7⟩⟩
    rw [dT_eqv, hp]
    simp
end
end K95
set_option Elab.async false
set_option linter.all false
set_option maxRecDepth 100000
set_option maxHeartbeats 4000000
set_option autoImplicit false
namespace K95
open PySem PySem.Spec PyProof.Rows L2
section
variable {P : Program} {w : World} {tb : Tbs} {K : PySem.W.Frag} {mg : Str → Option Value} {base : Heap}
theorem not_mflds {C dx dx' r t l d : Addr} {fs : List (Str × V)} (h : fs.length < 4) : HO.ins C dx fs ≠ .ins C dx' (mflds r t l d) := fun z => by
  have := (HO.ins.inj z).2.2
  rw [this] at h
  exact absurd h (by unfold mflds; simp)
def spInit (P : Program) (w : World) (tb : Tbs) (K : PySem.W.Frag) : Sp := fun vs H Q _ => ∃ m v T n k dx H0, vs = [.ref m, v] ∧ Ext P w tb (CM K) H0 H ∧ Nw H0 m ∧ H m = some (.ins (CM K) dx []) ∧ TabO H v T ∧ Good T n k ∧ ∀ H', Ext P w tb (CM K) H0 H' → MonAt P w (CM K) H' m T → Q .non H'
theorem sc_dM_init : FnScope ["self", "right", "rows", "row"] ["self", "right"] dM_init.scope := ⟨rfl, rfl, rfl, by decide +kernel, rfl, by decide +kernel, by decide +kernel⟩
theorem go_init (T : Txt K mg) : GoM P w K mg base "__init__" ["self", "right"] 3 (spInit P w tb K) := by
  obtain ⟨fd, F⟩ := T.fn 7
  obtain ⟨f_check_products, fd_check_products, m_check_products, k_check_products, b_check_products, G_check_products⟩ := go_check_products (P := P) (w := w) (base := base) (tb := tb) T
  obtain ⟨f_left_of, fd_left_of, m_left_of, k_left_of, b_left_of, G_left_of⟩ := go_left_of (P := P) (w := w) (base := base) (tb := tb) T
  obtain ⟨f_tree_of, fd_tree_of, m_tree_of, k_tree_of, b_tree_of, G_tree_of⟩ := go_tree_of (P := P) (w := w) (base := base) (tb := tb) T
  obtain ⟨f_check_order, fd_check_order, m_check_order, k_check_order, b_check_order, G_check_order⟩ := go_check_order (P := P) (w := w) (base := base) (tb := tb) T
  obtain ⟨f_check_form, fd_check_form, m_check_form, k_check_form, b_check_form, G_check_form⟩ := go_check_form (P := P) (w := w) (base := base) (tb := tb) T
  refine ⟨fd, F.bindsN (fun _ _ _ _ _ _ us hl => match us, hl with | [_, _], _ => rfl), okN F sc_dM_init (fun vs H Q E h => by
    obtain ⟨_, _, _, _, _, _, _, rfl, _⟩ := h
    rfl) (fun cdv A outer s H vs Q E rm h => ?_)⟩
  obtain ⟨m, v, T', n, k, dx, H0, rfl, e0, nm, hm, hT, hG, q⟩ := h
  have hF := hG.form
  have n2 := hF.n2
  refine ⟨_, (pss_cons (ps_expr (pe_call G_check_form (rm.mono (by decide)) rfl m_check_form k_check_form b_check_form .nil pass0 (pa_cons (pv 1) pa_nil)))
      (pss_cons (ps_set (i := 2) sc_dM_init.nd rfl (Or.inl rfl) (pe_callTy call_tuple_of (by rfl) T.n_tuple boot_tuple (pa_cons (pe_lc (own := [("row", 3)]) (g := gName 3) rfl sc_dM_init.nd (pi_or (pi_list (pv 1)) (pi_tup (pv 1))) (blkOk_by (N := ["self", "right", "rows", "row"]) (sc := dM_init.scope) (by decide +kernel)) (fun _ _ _ _ _ => (pg_name (i := 3) sc_dM_init.nd rfl (Or.inl rfl))) (fun _ _ _ _ _ => pts_nil) (fun _ _ _ _ _ => pe_c (pe_callTy call_tuple_of (by rfl) T.n_tuple boot_tuple (pa_cons (pv 3) pa_nil)))) pa_nil)))
      (pss_cons (ps_expr (pe_call G_check_order (rm.mono (by decide)) rfl m_check_order k_check_order b_check_order .nil pass0 (pa_cons (pv 2) pa_nil)))
      (pss_cons (ps_fld (pv 0) (pv 2) rfl)
      (pss_cons (ps_fld (pv 0) (pe_call G_tree_of (rm.mono (by decide)) rfl m_tree_of k_tree_of b_tree_of .nil pass0 (pa_cons (pv 2) pa_nil)) rfl)
      (pss_cons (ps_fld (pv 0) (pe_call G_left_of (rm.mono (by decide)) rfl m_left_of k_left_of b_left_of .nil pass0 (pa_cons (pv 2) (pa_cons (pe_fld (pv 0) rfl) pa_nil))) rfl)
      (pss_cons (ps_expr (pe_call G_check_products (rm.mono (by decide)) rfl m_check_products k_check_products b_check_products .nil pass0 (pa_cons (pv 2) (pa_cons (pe_fld (pv 0) rfl) pa_nil))))
      (pss_one (ps_fld (pv 0) pe_dnewM rfl))))))))), ?_⟩
  refine ⟨_, rfl, v, T', n, k, rfl, hT, hF, fun H1 e1 => ?_⟩
  have hT1 := hT.ext e1
  obtain ⟨rs, ⟨a, rfl, hv⟩, hr⟩ := hT1
  have hlen : rs.length = n := by rw [paired_len hr, hF.len]
  refine lc_seq (P := P) (w := w) (tb := tb) (C := CM K) ?_ hv (fun _ i y H => IntTup H y (T'.getD i [])) (fun D => stab_tup fun i => T'.getD i []) (by omega) (fun _ => ?_) (fun D i x H5 acc hx5 e5 hD hac Qk qk => ?_) (fun D H5 ys hD e5 hy hl5 hr5 => ?_)
  · rfl
  · rfl
  · obtain ⟨row, gr, b, rfl, hb⟩ := paired_get' hr hx5
    have eg : T'.getD i [] = row := by rw [List.getD_eq_getElem?_getD, gr]; rfl
    rcases hb with hb | hb
    · exact ⟨_, rfl, _, _, rfl, .inr ⟨SqT.of (e5.tup hb), qk _ _ (.refl _) ⟨b, rfl, by rw [eg]; exact e5.tup hb⟩⟩⟩
    · exact ⟨_, rfl, _, _, rfl, .inl ⟨SqL.of (e5.lst hb), fun l hl => qk _ _ (.new hl) ⟨l, rfl, by rw [eg]; exact upd_same⟩⟩⟩
  · refine ⟨D, _, rfl, .inl ⟨SqL.of hy, fun r hr' => ?_⟩⟩
    have e6 := Ext.new (P := P) (w := w) (tb := tb) (C := CM K) (o := .tup ys) hr'
    have eA := ((e0.trans e1).trans e5).trans e6
    have hR : TabT (upd H5 r (.tup ys)) r T' := ⟨ys, upd_same, paired_of (by rw [hl5, hlen, hF.len]) fun i y x hy hx => by
      have h1 := (hr5 i y hy).ext e6
      rw [List.getD_eq_getElem?_getD, hx] at h1
      exact h1⟩
    have hm1 := ((e1.trans e5).trans e6).ins hm
    -- check_order
    refine ⟨_, rfl, r, T', n, k, rfl, hR, hG.ordd, fun H7 e7 => ?_⟩
    have hm7 := e7.ins hm1
    have eB := eA.trans e7
    -- self.right
    refine ⟨_, rfl, _, rfl, m, _, dx, _, rfl, hm7, T.cl, T.no_right, (by decide), ?_⟩
    have e8 : Ext P w tb (CM K) H0 (upd H7 m (.ins (CM K) dx [("right", .ref r)])) := eB.mut nm hm7 rfl (fun _ _ _ _ _ => not_mflds (by simp))
    have kp8 : ∀ x o, H7 x = some o → x ≠ m → upd H7 m (.ins (CM K) dx [("right", .ref r)]) x = some o := fun x o h z => by rw [upd_ne z]; exact h
    have mono8 : ∀ {x xs}, H7 x = some (.tup xs) → upd H7 m (.ins (CM K) dx [("right", .ref r)]) x = some (.tup xs) := fun {x xs} h => kp8 _ _ h (ne_of h hm7 fun z => by cases z)
    have hR8 : TabT (upd H7 m (.ins (CM K) dx [("right", .ref r)])) r T' := (hR.ext e7).mono fun _ _ z => mono8 z
    -- self.tree
    refine ⟨_, rfl, r, T', n, k, rfl, hR8, hF, fun H9 t e9 ht => ?_⟩
    have hm9 := e9.ins upd_same
    refine ⟨_, rfl, m, _, dx, _, rfl, hm9, T.cl, T.no_tree, (by show 1 < 1000; decide), ?_⟩
    have e10 : Ext P w tb (CM K) H0 (upd H9 m (.ins (CM K) dx [("right", .ref r), ("tree", .ref t)])) := (e8.trans e9).mut nm hm9 rfl (fun _ _ _ _ _ => not_mflds (by simp))
    have kp10 : ∀ x o, H9 x = some o → x ≠ m → upd H9 m (.ins (CM K) dx [("right", .ref r), ("tree", .ref t)]) x = some o := fun x o h z => by rw [upd_ne z]; exact h
    have mono10 : ∀ x xs, H9 x = some (.tup xs) → upd H9 m (.ins (CM K) dx [("right", .ref r), ("tree", .ref t)]) x = some (.tup xs) := fun x xs h => kp10 _ _ h (ne_of h hm9 fun z => by cases z)
    have hR10 : TabT (upd H9 m (.ins (CM K) dx [("right", .ref r), ("tree", .ref t)])) r T' := (hR8.ext e9).mono mono10
    have ht10 : TreeL (upd H9 m (.ins (CM K) dx [("right", .ref r), ("tree", .ref t)])) t T' := by
      obtain ⟨vs, h1, h2⟩ := ht
      exact ⟨vs, kp10 _ _ h1 (ne_of h1 hm9 fun z => by cases z), Paired.mapP h2 fun _ _ z => z.mono mono10⟩
    -- self.lefts
    refine ⟨_, rfl, _, rfl, m, _, dx, _, _, rfl, upd_same, T.cl, T.no_tree, rfl, ?_⟩
    refine ⟨r, t, T', n, k, rfl, hR10, ht10, hG.ordd, fun H11 l e11 hl => ?_⟩
    have hm11 := e11.ins upd_same
    refine ⟨_, rfl, m, _, dx, _, rfl, hm11, T.cl, T.no_lefts, (by show 2 < 1000; decide), ?_⟩
    have e12 : Ext P w tb (CM K) H0 (upd H11 m (.ins (CM K) dx [("right", .ref r), ("tree", .ref t), ("lefts", .ref l)])) := (e10.trans e11).mut nm hm11 rfl (fun _ _ _ _ _ => not_mflds (by simp))
    have kp12 : ∀ x o, H11 x = some o → x ≠ m → upd H11 m (.ins (CM K) dx [("right", .ref r), ("tree", .ref t), ("lefts", .ref l)]) x = some o := fun x o h z => by rw [upd_ne z]; exact h
    have mono12 : ∀ x xs, H11 x = some (.tup xs) → upd H11 m (.ins (CM K) dx [("right", .ref r), ("tree", .ref t), ("lefts", .ref l)]) x = some (.tup xs) := fun x xs h => kp12 _ _ h (ne_of h hm11 fun z => by cases z)
    have hR12 := (hR10.ext e11).mono mono12
    have hl12 := hl.mono mono12
    have ht12 : TreeL (upd H11 m (.ins (CM K) dx [("right", .ref r), ("tree", .ref t), ("lefts", .ref l)])) t T' := by
      obtain ⟨vs, h1, h2⟩ := ht10.ext e11
      exact ⟨vs, kp12 _ _ h1 (ne_of h1 hm11 fun z => by cases z), Paired.mapP h2 fun _ _ z => z.mono mono12⟩
    -- check_products
    refine ⟨_, rfl, _, rfl, m, _, dx, _, _, rfl, upd_same, T.cl, T.no_lefts, rfl, ?_⟩
    refine ⟨r, l, T', n, k, rfl, hR12, hl12, hG, fun H13 e13 => ?_⟩
    have hm13 := e13.ins upd_same
    -- self.memory
    refine fun d hd hds => ⟨_, rfl, m, _, dx, _, rfl, by rw [upd_ne (ne_of_none hm13 hd)]; exact hm13, T.cl, T.no_memory, (by show 3 < 1000; decide), ?_⟩
    have hmd : m ≠ d := ne_of_none hm13 hd
    have eF := Ext.made (r := r) (t := t) (l := l) (e12.trans e13) nm hm13 hd
    refine q _ eF ⟨⟨n, k, hG⟩, dx, r, t, l, d, ?_, ?_⟩
    · have get : ∀ x o, H13 x = some o → x ≠ m → upd (upd H13 d (MemO d #[])) m (.ins (CM K) dx (mflds r t l d)) x = some o := fun x o h z => by
        rw [upd_ne z, upd_ne (ne_of_none h hd)]
        exact h
      have monoF : ∀ x xs, H13 x = some (.tup xs) → upd (upd H13 d (MemO d #[])) m (.ins (CM K) dx (mflds r t l d)) x = some (.tup xs) := fun x xs h => get _ _ h (ne_of h hm13 fun z => by cases z)
      obtain ⟨vs, h1, h2⟩ := ht12.ext e13
      exact ⟨upd_same, (hR12.ext e13).mono monoF, ⟨vs, get _ _ h1 (ne_of h1 hm13 fun z => by cases z), Paired.mapP h2 fun _ _ z => z.mono monoF⟩, (hl12.ext e13).mono monoF⟩
    · exact ⟨#[], [], by rw [upd_ne hmd.symm, upd_same], hds, rfl, .nil, fun x hx => by cases hx⟩
end
end K95
set_option Elab.async false
set_option linter.all false
set_option maxRecDepth 100000
set_option maxHeartbeats 4000000
set_option autoImplicit false
namespace K95
open PySem PySem.Spec PyProof.Rows L2
section
variable {P : Program} {w : World} {tb : Tbs} {K : PySem.W.Frag} {mg : Str → Option Value} {base : Heap}
/-- what a monoid's methods are called with: its parts, its memory as it stands -/
structure MonX (P : Program) (w : World) (tb : Tbs) (C : Addr) (H : Hp) (m : Addr) (T : Tab) (n k : Nat) (dx r t l d : Addr) (es : Array DictEntry) (xs : MX) : Prop where
  ok : Okk tb C H
  good : Good T n k
  b : MonB C H m dx r t l d T
  raw : MRaw P w H d es xs
  mem : ∀ x ∈ xs, MemE T H x
theorem MonX.of {H : Hp} {C m : Addr} {T : Tab} (ok : Okk tb C H) (h : MonAt P w C H m T) : ∃ n k dx r t l d es xs, MonX P w tb C H m T n k dx r t l d es xs := by
  obtain ⟨⟨n, k, g⟩, dx, r, t, l, d, hB, hD⟩ := h
  obtain ⟨es, xs, h1, h2, _⟩ := hD.raw
  exact ⟨n, k, dx, r, t, l, d, es, xs, ok, g, hB, h1, h2⟩
theorem MonX.at {H : Hp} {C m : Addr} {T : Tab} {n k : Nat} {dx r t l d : Addr} {es : Array DictEntry} {xs : MX} (h : MonX P w tb C H m T n k dx r t l d es xs) : MonAt P w C H m T := ⟨⟨n, k, h.good⟩, dx, r, t, l, d, h.b, h.raw.mem h.mem⟩
/-- the memory's object stands, nothing else of it is changed -/
theorem MonX.ext {H H' : Hp} {C m : Addr} {T : Tab} {n k : Nat} {dx r t l d : Addr} {es : Array DictEntry} {xs : MX} (h : MonX P w tb C H m T n k dx r t l d es xs) (e : Ext P w tb C H H') (hd : H' d = some (MemO d es)) : MonX P w tb C H' m T n k dx r t l d es xs :=
  ⟨e.ok h.ok, h.good, h.b.ext e, ⟨hd, h.raw.sm, h.raw.es, h.raw.nd, fun x hx => by
    have := h.raw.ks x hx
    obtain ⟨k0, kv, a⟩ := x
    cases k0 with
    | none => exact this
    | some n =>
      obtain ⟨ka, h1, h2⟩ := this
      exact ⟨ka, h1, e.tup h2⟩⟩, fun x hx => (h.mem x hx).mono (fun _ _ z => e.tup z) fun _ _ _ z => e.keep _ _ z rfl⟩
theorem MonX.len {H : Hp} {C m : Addr} {T : Tab} {n k : Nat} {dx r t l d : Addr} {es : Array DictEntry} {xs : MX} (h : MonX P w tb C H m T n k dx r t l d es xs) : xs.length ≤ 5000 := by
  have := keys_le (n := T.length) h.raw.nd fun k hk x e => by
    obtain ⟨y, hy, rfl⟩ := List.mem_map.mp hk
    obtain ⟨k0, kv, a⟩ := y
    have h6 := h.mem _ hy
    have e' : k0 = some x := e
    subst e'
    exact h6.2.1
  have h2 := h.good.form.len
  have h3 := h.good.form.n2
  simp at this
  omega
/-- a list goes into the memory, for good -/
theorem MonX.put {H H' : Hp} {C m a : Addr} {T : Tab} {n k : Nat} {dx r t l d : Addr} {es es' es0 : Array DictEntry} {xs xs0 : MX} {ys : List V} {od : Obj} {kv : Value} {key : Option Nat} (h0 : MonX P w tb C H m T n k dx r t l d es0 xs0) (e : Ext P w tb C H H') (h : MonX P w tb C H' m T n k dx r t l d es xs) (nw : Nw H a)
    (hn : ∀ x ∈ xs, x.1 ≠ key) (ha : H' a = some (.lst ys)) (hkv : MKv H' key kv) (hv : MVal T key ys) (he : es'.toList = (xs ++ [(key, kv, a)]).map (mEntry P w)) :
    Ext P w tb C H (upd (upd H' a (.frz od (.lst ys))) d (MemO d es')) ∧ MonX P w tb C (upd (upd H' a (.frz od (.lst ys))) d (MemO d es')) m T n k dx r t l d es' (xs ++ [(key, kv, a)]) := by
  obtain ⟨h1, h2⟩ := mem_put (od := od) h.raw h.mem hn ha hkv hv he
  have e2 := Ext.memo e nw ha h.ok h.b (h.raw.mem h.mem) (h1.mem h2)
  exact ⟨e2, e2.ok h0.ok, h.good, h0.b.ext e2, h1, h2⟩
def spAllWords (P : Program) (w : World) (tb : Tbs) (K : PySem.W.Frag) : Sp := fun vs H Q _ => ∃ m T n k dx r t l d es xs, vs = [.ref m] ∧ MonX P w tb (CM K) H m T n k dx r t l d es xs ∧
  ∀ H' a od es' xs', Ext P w tb (CM K) H H' → H' a = some (.frz od (.lst ((words T).map V.str))) → MonX P w tb (CM K) H' m T n k dx r t l d es' xs' → (∀ x ∈ xs', x ∈ xs ∨ x.1 = none) → Q (.ref a) H'
theorem sc_dM_all_words : FnScope ["self", "found", "ahead", "letter"] ["self"] dM_all_words.scope := ⟨rfl, rfl, rfl, by decide +kernel, rfl, by decide +kernel, by decide +kernel⟩
theorem go_all_words (T : Txt K mg) : GoM P w K mg base "all_words" ["self"] 1 (spAllWords P w tb K) := by
  obtain ⟨fd, F⟩ := T.fn 10
  obtain ⟨t_LETTERS, h_LETTERS⟩ := T.s_LETTERS
  refine ⟨fd, F.bindsN (fun _ _ _ _ _ _ us hl => match us, hl with | [_], _ => rfl), okN F sc_dM_all_words (fun vs H Q E h => by
    obtain ⟨_, _, _, _, _, _, _, _, _, _, _, rfl, _⟩ := h
    rfl) (fun cdv A outer s H vs Q E rm h => ?_)⟩
  obtain ⟨m, T', n, k, dx, r, t, l, d, es, xs, rfl, hX, q⟩ := h
  have hG := hX.good
  have hB := hX.b
  have mr := hX.raw
  have hF := hG.form
  have n1 := hF.n1
  have n2 := hF.n2
  have k2 := hF.k2
  obtain ⟨hT1, hT2⟩ := hG.tree_ok
  refine ⟨_, (pss_cons (ps_if (pt_cmp (pc_mnotin (hu9_of rm) pe_str (pe_fld (pv 0) rfl))) (pss_cons (ps_set (i := 1) sc_dM_all_words.nd rfl (Or.inl rfl) (pe_lst (pa_cons pe_str pa_nil)))
      (pss_cons (ps_for PassesOwn.never rfl (pi_list (pe_slice sl_list (pe_fld (pv 0) rfl) (po_some pe_int) po_none)) (pg_tup (n := 2) rfl (pgs_cons (pg_name (i := 2) sc_dM_all_words.nd rfl (Or.inl rfl)) (pgs_cons (pg_name (i := 3) sc_dM_all_words.nd rfl (Or.inl rfl)) pgs_nil)))
      (pss_one (ps_expr (pe_bm PySem.F.plainAttrs_list PySem.F.slot_list_append PySem.F.type_list_append mt_append (pv 1) (pa_cons (pe_op op_add_str (pe_ix ix_list (pv 1) (pv 2) (fun _ _ => rfl)) (pe_ix ix_str (pe_glob (v := .str "abcdef") rfl h_LETTERS ⟨_, rfl⟩) (pv 3) (fun _ _ => rfl))) pa_nil)))))
      (pss_one (ps_mput (hu9_of rm) (pe_fld (pv 0) rfl) pe_str (pv 1) rfl)))) pss_nil)
      (pss_one (ps_ret (pe_mget (hu9_of rm) (pe_fld (pv 0) rfl) pe_str (fun _ _ => rfl))))), ?_⟩
  refine ⟨_, rfl, _, _, dx, _, _, rfl, hB.ob, T.cl, T.no_memory, rfl, d, es, xs, none, rfl, mr, rfl, fun hn => ⟨_, rfl, iteT rfl ?_⟩, fun hx => ⟨_, rfl, iteF rfl ?_⟩⟩
  · refine ⟨(by show 1 ≤ sizeLine; decide), fun p hp => ?_⟩
    have hdp : d ≠ p := ne_of_none mr.at_ hp
    have e0 : Ext P w tb (CM K) H (upd H p (.lst [.str ""])) := .new hp
    have nw : Nw H p := .of hp
    obtain ⟨ts, ht, htr⟩ := hB.tree
    refine ⟨_, rfl, _, _, dx, _, _, rfl, e0.ins hB.ob, T.cl, T.no_tree, rfl, 1, rfl, t, _, rfl, SqL.of (e0.lst ht), fun c hc => ?_⟩
    rw [cut1]
    have ec := Ext.new (P := P) (w := w) (tb := tb) (C := CM K) (o := .lst ts) hc
    have e1 := e0.trans ec
    have hcp : c ≠ p := fun z => by rw [z, upd_same] at hc; cases hc
    refine ⟨c, rfl, ⟨_, SqL.of upd_same⟩, for_it (walk_list (xs := ts)) (fun i σ H' => ∃ y3 y4 acc, σ = [some (.ref m), some (.ref p), y3, y4] ∧ H' p = some (.lst (acc.map fun u => V.str (wordStr u))) ∧ H' c = some (.lst ts) ∧ H' d = some (MemO d es) ∧ acc.length = i + 1 ∧ (∀ u ∈ acc, u.length ≤ i) ∧ pathsFrom ((treeOf T').drop i) acc = pathsOf T' ∧ Ext P w tb (CM K) H H')
      ⟨_, _, [[]], rfl, ec.lst upd_same, upd_same, by rw [upd_ne (ne_of_none (by rw [upd_ne hdp]; exact mr.at_) hc), upd_ne hdp]; exact mr.at_, rfl, fun u hu => by rw [List.mem_singleton.mp hu]; exact Nat.zero_le _, rfl, e1⟩ (fun i σ H' _ ⟨_, _, _, _, _, h, _⟩ => SqL.of h) (fun i x σ H' H6 hi ⟨_, _, acc, es, hl, hcl, hmd, hlen, hlt, hpf, e⟩ hy => ?_) fun σ H' ⟨_, _, acc, es, hl, hcl, hmd, hlen, hlt, hpf, e⟩ => ?_⟩
    · subst es
      obtain ⟨rfl, hx⟩ := hy
      obtain ⟨⟨ah, le⟩, hx', q1, rfl, hq1⟩ := paired_get' htr hx
      have hq1' := e.tup hq1
      obtain ⟨t1, t2, t3⟩ := hT1 i ah le hx'
      have hit : i < (treeOf T').length := (List.getElem?_eq_some_iff.mp hx').1
      refine ⟨q1, _, rfl, SqT.of hq1', rfl, _, _, rfl, _, _, rfl, rfl, ?_⟩
      have hal : ah < acc.length := by omega
      have hua := hlt _ (List.getElem_mem hal)
      refine ⟨_, rfl, .inl ⟨rfl, _, SqL.of hl⟩, ?_⟩
      refine ⟨_, rfl, _, rfl, _, _, _, _, rfl, rfl, SqL.of hl, atI_nat (j := ah) (v := V.str (wordStr acc[ah])) (by rw [List.getElem?_map, List.getElem?_eq_getElem hal]; rfl), ?_⟩
      refine ⟨_, rfl, _, _, 97 + le, rfl, rfl, (by decide), letter_at (by omega), ?_⟩
      refine ⟨_, _, rfl, rfl, ?_, ?_⟩
      · rw [wordStr_len]
        show acc[ah].length + 1 ≤ sizeLine
        exact Nat.le_of_lt (line_of (by omega))
      · rw [wordStr_snoc]
        refine ⟨p, _, _, rfl, rfl, hl, line_of (by simp; omega), ?_⟩
        refine ⟨_, _, acc ++ [acc[ah] ++ [le]], rfl, ?_, ?_, ?_, by simp; omega, fun u hu => ?_, ?_, e.mut nw hl rfl⟩
        · rw [upd_same, List.map_append] <;> rfl
        · rw [upd_ne hcp]
          exact hcl
        · rw [upd_ne hdp]
          exact hmd
        · rcases List.mem_append.mp hu with h | h
          · exact Nat.le_succ_of_le (hlt u h)
          · rw [List.mem_singleton.mp h]
            simp
            omega
        · rw [← hpf, drop_get hx']
          show _ = pathsFrom ((treeOf T').drop (i + 1)) (acc ++ [acc.getD ah [] ++ [le]])
          rw [List.getD_eq_getElem?_getD, List.getElem?_eq_getElem hal] <;> rfl
    · subst es
      rw [paired_len htr, List.drop_length] at hpf
      have hpf' : acc = pathsOf T' := hpf
      subst hpf'
      have hXE := hX.ext e hmd
      refine ⟨_, rfl, _, rfl, _, _, dx, _, _, rfl, e.ins hB.ob, T.cl, T.no_memory, rfl, d, es, xs, none, p, _, rfl, rfl, hXE.raw, rfl, hn, hl, hX.len, fun od kv es' hkv he => ?_⟩
      obtain ⟨eF, hXF⟩ := MonX.put (od := od) hX e hXE nw hn hl hkv (by show _ = _; unfold words; rw [List.map_map]; rfl) he
      refine ⟨_, rfl, _, _, dx, _, _, rfl, eF.ins hB.ob, T.cl, T.no_memory, rfl, d, es', _, none, kv, p, rfl, hXF.raw, rfl, List.mem_append_right _ List.mem_cons_self, ?_⟩
      refine q _ p od es' _ eF ?_ hXF fun x hx => ?_
      · rw [upd_ne hdp.symm, upd_same]
        unfold words
        rw [List.map_map] <;> rfl
      · rcases List.mem_append.mp hx with h | h
        · exact .inl h
        · rw [List.mem_singleton.mp h]
          exact .inr rfl
  · obtain ⟨kv, a, hx⟩ := hx
    obtain ⟨h1, od, h2⟩ := hX.mem _ hx
    refine ⟨_, rfl, _, _, dx, _, _, rfl, hB.ob, T.cl, T.no_memory, rfl, d, es, xs, none, kv, a, rfl, mr, rfl, hx, ?_⟩
    exact q _ a od es xs (.refl _) h2 hX fun x hx => .inl hx
/-- a word's letters' places -/
theorem occ_letter {c : Nat} (h : c < 6) : Builtin.Str.occurrences ("abcdef" : Str) (⟨#[97 + c]⟩ : Str) 0 ("abcdef" : Str).length 1 = [c] := by
  have : c = 0 ∨ c = 1 ∨ c = 2 ∨ c = 3 ∨ c = 4 ∨ c = 5 := by omega
  rcases this with rfl | rfl | rfl | rfl | rfl | rfl <;> decide +kernel
def spPathOf (P : Program) (w : World) (tb : Tbs) (K : PySem.W.Frag) : Sp := fun vs H Q _ => ∃ m T n k dx r t l d es xs x, vs = [.ref m, nv x] ∧ x < n ∧ MonX P w tb (CM K) H m T n k dx r t l d es xs ∧
  ∀ H' a es' xs', Ext P w tb (CM K) H H' → Nw H a → H' a = some (.lst (nvs (path T x))) → MonX P w tb (CM K) H' m T n k dx r t l d es' xs' → (∀ x ∈ xs', x ∈ xs ∨ x.1 = none) → Q (.ref a) H'
theorem sc_dM_path_of : FnScope ["self", "number", "letter"] ["self", "number"] dM_path_of.scope := ⟨rfl, rfl, rfl, by decide +kernel, rfl, by decide +kernel, by decide +kernel⟩
theorem go_path_of (T : Txt K mg) : GoM P w K mg base "path_of" ["self", "number"] 2 (spPathOf P w tb K) := by
  obtain ⟨fd, F⟩ := T.fn 13
  obtain ⟨fd_all_words, b_all_words, G_all_words⟩ := go_all_words (P := P) (w := w) (base := base) (tb := tb) T
  obtain ⟨t_LETTERS, h_LETTERS⟩ := T.s_LETTERS
  refine ⟨fd, F.bindsN (fun _ _ _ _ _ _ us hl => match us, hl with | [_, _], _ => rfl), okN F sc_dM_path_of (fun vs H Q E h => by
    obtain ⟨_, _, _, _, _, _, _, _, _, _, _, _, rfl, _⟩ := h
    rfl) (fun cdv A outer s H vs Q E rm h => ?_)⟩
  obtain ⟨m, T', n, k, dx, r, t, l, d, es, xs, x', rfl, hx, hX, q⟩ := h
  have hG := hX.good
  have hB := hX.b
  obtain ⟨hp1, hp2⟩ := hG.paths_ok
  refine ⟨_, (pss_one (ps_ret (pe_lc (own := [("letter", 2)]) (g := gName 2) rfl sc_dM_path_of.nd (pi_str (pe_ix ix_list (pe_meth0 (pv 0) T.cl T.m_all_words G_all_words (rm.mono (by decide)) b_all_words .nil pass0) (pv 1) (fun _ _ => rfl))) (blkOk_by (N := ["self", "number", "letter"]) (sc := dM_path_of.scope) (by decide +kernel)) (fun _ _ _ _ _ => (pg_name (i := 2) sc_dM_path_of.nd rfl (Or.inl rfl))) (fun _ _ _ _ _ => pts_nil) (fun _ _ _ _ _ => pe_c (pe_bm PySem.F.plainAttrs_str PySem.F.slot_str_index PySem.F.type_str_index mt_sindex (pe_glob (v := .str "abcdef") rfl h_LETTERS ⟨_, rfl⟩) (pa_cons (pv 2) pa_nil)))))), ?_⟩
  refine ⟨_, rfl, m, dx, _, rfl, hB.ob, rfl, m, T', n, k, dx, r, t, l, d, es, xs, rfl, hX, fun H1 a od es1 xs1 e1 ha hX1 hm1 => ?_⟩
  have hxl : x' < (pathsOf T').length := by omega
  have hpx : K95.path T' x' = (pathsOf T')[x'] := by
    unfold K95.path
    rw [List.getD_eq_getElem?_getD, List.getElem?_eq_getElem hxl] <;> rfl
  have hp6 := (hG.path_ok hx).2
  have hlen6 := hG.path_len
  refine ⟨_, rfl, _, _, _, _, rfl, rfl, .inl (.inr ⟨_, ha⟩), atI_nat (j := x') (v := V.str (wordStr (K95.path T' x'))) (by rw [List.getElem?_map]; unfold words; rw [List.getElem?_map, List.getElem?_eq_getElem hxl, hpx]; rfl), ?_⟩
  refine ⟨_, rfl, fun D hD => lc_genI (P := P) (w := w) (tb := tb) (C := CM K) walk_str (R0 := fun i x => ∃ c, (wordStr (K95.path T' x')).cps[i]? = some c ∧ x = .str ⟨#[c]⟩) (fun i H x H' y => y) hD (fun _ _ => trivial) (fun i y _ => y = nv ((K95.path T' x').getD i 0)) (stab_val fun i => nv ((K95.path T' x').getD i 0)) (fun H' => H' d = some (MemO d es1)) hX1.raw.at_ (fun H' acc h => by rw [upd_ne (ne_of_none hX1.raw.at_ hD)]; exact h) ?_ (fun _ => ?_) (fun i y H5 acc hi hy e5 iv hac Qk qk => ?_) (fun H5 ys e5 iv hy hl5 hr5 => ?_)⟩
  · show (wordStr (K95.path T' x')).length ≤ 10000
    rw [wordStr_len, hpx]
    have := hlen6 x' hx
    omega
  · rfl
  · obtain ⟨c, hc, rfl⟩ := hy
    have hc2 : ∃ o, (K95.path T' x')[i]? = some o ∧ c = 97 + o := by
      unfold wordStr letterAt at hc
      simp at hc
      obtain ⟨o, h1, h2⟩ := hc
      exact ⟨o, h1, h2.symm⟩
    obtain ⟨o, ho, rfl⟩ := hc2
    have ho6 : o < k := hp6 o (List.mem_of_getElem? ho)
    have hk6 := hG.form.k2
    refine ⟨rfl, _, rfl, _, _, o, [], rfl, rfl, occ_letter (by omega), ?_⟩
    refine qk _ _ (.refl _) iv ?_
    rw [List.getD_eq_getElem?_getD, ho] <;> rfl
  · have eys : ys = nvs (K95.path T' x') := by
      have hl6 : ys.length = (K95.path T' x').length := by rw [hl5]; exact wordStr_len _
      have := nvs_map (f := id) hl6 fun i y x hy hx => by
        rw [hr5 i y hy, List.getD_eq_getElem?_getD, hx] <;> rfl
      rw [this, List.map_id]
    subst eys
    have e6 := e1.trans e5
    exact q H5 D es1 xs1 e6 (e1.nw hD) hy (hX1.ext e5 iv) hm1
def spProduct (P : Program) (w : World) (tb : Tbs) (K : PySem.W.Frag) : Sp := fun vs H Q _ => ∃ m T x y, vs = [.ref m, nv x, nv y] ∧ Okk tb (CM K) H ∧ MonAt P w (CM K) H m T ∧ x < T.length ∧ y < T.length ∧ ∀ H', Ext P w tb (CM K) H H' → Q (nv (mul T x y)) H'
theorem sc_dM_product : FnScope ["self", "one", "other", "key", "letter"] ["self", "one", "other"] dM_product.scope := ⟨rfl, rfl, rfl, by decide +kernel, rfl, by decide +kernel, by decide +kernel⟩
theorem go_product (T : Txt K mg) : GoM P w K mg base "product" ["self", "one", "other"] 3 (spProduct P w tb K) := by
  obtain ⟨fd, F⟩ := T.fn 14
  obtain ⟨fd_path_of, b_path_of, G_path_of⟩ := go_path_of (P := P) (w := w) (base := base) (tb := tb) T
  refine ⟨fd, F.bindsN (fun _ _ _ _ _ _ us hl => match us, hl with | [_, _, _], _ => rfl), okN F sc_dM_product (fun vs H Q E h => by
    obtain ⟨_, _, _, _, rfl, _⟩ := h
    rfl) (fun cdv A outer s H vs Q E rm h => ?_)⟩
  obtain ⟨m, T', x, y, rfl, ok, hM, hx, hy, q⟩ := h
  obtain ⟨n, k, dx, r, t, l, d, es, xs, hX⟩ := MonX.of ok hM
  have hG := hX.good
  have hB := hX.b
  have hF := hG.form
  have hlen := hF.len
  refine ⟨_, (pss_cons (ps_set (i := 3) sc_dM_product.nd rfl (Or.inl rfl) (pe_tup (pa_cons pe_str (pa_cons (pv 2) pa_nil))))
      (C8.pss_cut (ps_if (pt_cmp (pc_mnotin (hu9_of rm) (pv 3) (pe_fld (pv 0) rfl))) (pss_one (ps_mput (hu9_of rm) (pe_fld (pv 0) rfl) (pv 3) (pe_meth (pv 0) T.cl T.m_path_of G_path_of (rm.mono (by decide)) b_path_of .nil pass0 (pa_cons (pv 2) pa_nil)) rfl)) pss_nil)
      (pss_cons (ps_for PassesOwn.never rfl (pi_list (pe_mget (hu9_of rm) (pe_fld (pv 0) rfl) (pv 3) (fun _ _ => rfl))) (pg_name (i := 4) sc_dM_product.nd rfl (Or.inl rfl))
      (pss_one (ps_set (i := 1) sc_dM_product.nd rfl (Or.inl rfl) (pe_ix ix_tup (pe_ix ix_tup (pe_fld (pv 0) rfl) (pv 1) (fun _ _ => rfl)) (pv 4) (fun _ _ => rfl)))))
      (pss_one (ps_ret (pv 1)))))), ?_⟩
  refine ⟨_, rfl, (by show 2 ≤ sizeLine; decide), fun ka hka => ?_⟩
  have e0 := Ext.new (P := P) (w := w) (tb := tb) (C := CM K) (o := .tup [.str "path", nv y]) hka
  have hX0 := hX.ext e0 (by rw [upd_ne (ne_of_none hX.raw.at_ hka)]; exact hX.raw.at_)
  refine ⟨fun σ H1 => ∃ es1 xs1 kv a, σ = [some (.ref m), some (nv x), some (nv y), some (.ref ka), none] ∧ Ext P w tb (CM K) H H1 ∧ H1 ka = some (.tup [.str "path", nv y]) ∧ MonX P w tb (CM K) H1 m T' n k dx r t l d es1 xs1 ∧ (some y, kv, a) ∈ xs1,
    ⟨_, rfl, _, rfl, _, _, dx, _, _, rfl, hX0.b.ob, T.cl, T.no_memory, rfl, d, es, xs, some y, rfl, hX0.raw, ⟨ka, rfl, upd_same⟩, fun hn => ⟨_, rfl, iteT rfl ?_⟩, fun hin => ⟨_, rfl, iteF rfl ?_⟩⟩, fun σ H1 ⟨es1, xs1, kv, a, es0, e1, hk1, hX1, hin⟩ => ?_⟩
  · refine ⟨_, rfl, m, dx, _, rfl, hX0.b.ob, rfl, _, rfl, m, T', n, k, dx, r, t, l, d, es, xs, y, rfl, by omega, hX0, fun H1 a es1 xs1 e1 nw ha hX1 hm1 => ?_⟩
    have hk1 := e1.tup (upd_same (H := H) (a := ka) (o := .tup [.str "path", nv y]))
    refine ⟨_, rfl, _, _, dx, _, _, rfl, hX1.b.ob, T.cl, T.no_memory, rfl, _, rfl, d, es1, xs1, some y, a, _, rfl, rfl, hX1.raw, ⟨ka, rfl, hk1⟩, fun x hx => ?_, ha, hX1.len, fun od kv es' hkv he => ?_⟩
    · rcases hm1 x hx with h | h
      · exact hn x h
      · rw [h]
        intro z
        cases z
    · obtain ⟨eF, hXF⟩ := MonX.put (od := od) hX (e0.trans e1) hX1 (nw.back e0) (fun x hx => by
        rcases hm1 x hx with h | h
        · exact hn x h
        · rw [h]
          intro z
          cases z) ha hkv ⟨hy, rfl⟩ he
      have hk2 : (upd (upd H1 a (.frz od (.lst (nvs (K95.path T' y))))) d (MemO d es')) ka = some (.tup [.str "path", nv y]) := by
        rw [upd_ne (ne_of hk1 hX1.raw.at_ fun z => by unfold MemO at z; cases z), upd_ne (ne_of hk1 ha fun z => by cases z)]
        exact hk1
      exact ⟨_, _, kv, a, rfl, eF, hk2, hXF, List.mem_append_right _ List.mem_cons_self⟩
  · obtain ⟨kv, a, hin⟩ := hin
    exact ⟨_, _, kv, a, rfl, e0, upd_same, hX0, hin⟩
  · subst es0
    obtain ⟨⟨ka', hkv, _⟩, hyl, od, ha⟩ := hX1.mem _ hin
    refine ⟨_, rfl, _, _, dx, _, _, rfl, hX1.b.ob, T.cl, T.no_memory, rfl, _, rfl, d, es1, xs1, some y, kv, a, rfl, hX1.raw, ⟨ka, rfl, hk1⟩, hin, ?_⟩
    obtain ⟨rs, hr1, hr2⟩ := hB.right
    refine ⟨a, rfl, ⟨_, .inl (.inr ⟨_, ha⟩)⟩, for_it (walk_list (xs := nvs (K95.path T' y))) (fun i σ H' => ∃ y4, σ = [some (.ref m), some (nv (run T' x ((K95.path T' y).take i))), some (nv y), some (.ref ka), y4] ∧ H' = H1) ⟨_, rfl, rfl⟩ (fun i σ H' _ ⟨_, _, h⟩ => by rw [h]; exact .inl (.inr ⟨_, ha⟩)) (fun i v σ H' H6 hi ⟨_, es, hH⟩ hy' => ?_) fun σ H' ⟨_, es, hH⟩ => ?_⟩
    · obtain ⟨rfl, hx'⟩ := hy'
      subst es hH
      rw [nvs_get] at hx'
      obtain ⟨o, ho, rfl⟩ := Option.map_eq_some_iff.mp hx'
      have hp6 := (hG.path_ok (x := y) (by omega)).2
      have hok := hp6 o (List.mem_of_getElem? ho)
      have hrn : run T' x ((K95.path T' y).take i) < n := hF.run_lt (by omega) fun c hc => hp6 c (List.mem_of_mem_take hc)
      obtain ⟨row, g1, g2⟩ := hF.get hrn hok
      obtain ⟨v, g3, b, rfl, g4⟩ := paired_get hr2 g1
      refine ⟨_, rfl, _, _, dx, _, _, rfl, hX1.b.ob, T.cl, T.no_right, rfl, _, rfl, _, _, _, _, rfl, rfl, SqT.of (e1.tup hr1), atI_nat g3, ?_⟩
      refine ⟨_, rfl, _, _, _, _, rfl, rfl, SqT.of (e1.tup g4), atI_nat (v := nv (step T' (run T' x ((K95.path T' y).take i)) o)) (by rw [nvs_get, g2]; rfl), ?_⟩
      refine ⟨some (nv o), ?_, rfl⟩
      rw [List.take_succ, ho]
      show _ = [some (V.ref m), some (nv (run T' x ((K95.path T' y).take i ++ [o]))), _, _, _]
      rw [run_snoc] <;> rfl
    · subst es hH
      rw [nvs_len, List.take_length]
      exact ⟨_, rfl, q _ e1⟩
def spTimes (P : Program) (w : World) (tb : Tbs) (K : PySem.W.Frag) : Sp := fun vs H Q _ => ∃ m T x y, vs = [.ref m, nv x, nv y] ∧ Okk tb (CM K) H ∧ MonAt P w (CM K) H m T ∧ x < T.length ∧ y < T.length ∧ ∀ H', Ext P w tb (CM K) H H' → Q (nv (mul T x y)) H'
theorem sc_dM_times : FnScope ["self", "one", "other"] ["self", "one", "other"] dM_times.scope := ⟨rfl, rfl, rfl, by decide +kernel, rfl, by decide +kernel, by decide +kernel⟩
theorem go_times (T : Txt K mg) : GoM P w K mg base "times" ["self", "one", "other"] 4 (spTimes P w tb K) := by
  obtain ⟨fd, F⟩ := T.fn 15
  obtain ⟨fd_product, b_product, G_product⟩ := go_product (P := P) (w := w) (base := base) (tb := tb) T
  obtain ⟨fd_check_number, b_check_number, G_check_number⟩ := go_check_number (P := P) (w := w) (base := base)  T
  refine ⟨fd, F.bindsN (fun _ _ _ _ _ _ us hl => match us, hl with | [_, _, _], _ => rfl), okN F sc_dM_times (fun vs H Q E h => by
    obtain ⟨_, _, _, _, rfl, _⟩ := h
    rfl) (fun cdv A outer s H vs Q E rm h => ?_)⟩
  obtain ⟨m, T', x, y, rfl, ok, hM, hx, hy, q⟩ := h
  have hM' := hM
  obtain ⟨_, dx, r, t, l, d, hB, _⟩ := hM'
  refine ⟨_, (pss_cons (ps_expr (pe_meth (pv 0) T.cl T.m_check_number G_check_number (rm.mono (by decide)) b_check_number .nil pass0 (pa_cons (pv 1) pa_nil)))
      (pss_cons (ps_expr (pe_meth (pv 0) T.cl T.m_check_number G_check_number (rm.mono (by decide)) b_check_number .nil pass0 (pa_cons (pv 2) pa_nil)))
      (pss_one (ps_ret (pe_meth (pv 0) T.cl T.m_product G_product (rm.mono (by decide)) b_product .nil pass0 (pa_cons (pv 1) (pa_cons (pv 2) pa_nil))))))), ?_⟩
  refine ⟨_, rfl, m, dx, _, rfl, hB.ob, rfl, _, rfl, m, T', x, rfl, hM, hx, ?_⟩
  refine ⟨_, rfl, m, dx, _, rfl, hB.ob, rfl, _, rfl, m, T', y, rfl, hM, hy, ?_⟩
  exact ⟨_, rfl, m, dx, _, rfl, hB.ob, rfl, _, rfl, _, rfl, m, T', x, y, rfl, ok, hM, hx, hy, q⟩
end
end K95
set_option Elab.async false
set_option linter.all false
set_option maxRecDepth 100000
set_option maxHeartbeats 4000000
set_option autoImplicit false
namespace K95
open PySem PySem.Spec PyProof.Rows L2
section
variable {P : Program} {w : World} {tb : Tbs} {K : PySem.W.Frag} {mg : Str → Option Value} {base : Heap}
/-- walked's three things -/
structure WkI (P : Program) (w : World) (tb : Tbs) (C : Addr) {α : Type} [DecidableEq α] (el : El α) (H0 H' : Hp) (fa na ra : Addr) (found : List α) (rows : Tab) (fv rv : List V) : Prop where
  e : Ext P w tb C H0 H'
  f : H' fa = some (.lst fv)
  fp : Paired (el.R H') fv found
  n : H' na = some (el.dic (numb found))
  r : H' ra = some (.lst rv)
  rp : Paired (IntTup H') rv rows
  nf : Nw H0 fa
  nn : Nw H0 na
  nr : Nw H0 ra
  d2 : fa ≠ ra
theorem WkI.d1 {C : Addr} {α : Type} [DecidableEq α] {el : El α} {H0 H' : Hp} {fa na ra : Addr} {found : List α} {rows : Tab} {fv rv : List V} (h : WkI P w tb C el H0 H' fa na ra found rows fv rv) : fa ≠ na := ne_of h.f h.n fun z => el.nl _ _ z.symm
theorem WkI.d3 {C : Addr} {α : Type} [DecidableEq α] {el : El α} {H0 H' : Hp} {fa na ra : Addr} {found : List α} {rows : Tab} {fv rv : List V} (h : WkI P w tb C el H0 H' fa na ra found rows fv rv) : ra ≠ na := ne_of h.r h.n fun z => el.nl _ _ z.symm
theorem WkI.ext {C : Addr} {α : Type} [DecidableEq α] {el : El α} {H0 H' H'' : Hp} {fa na ra : Addr} {found : List α} {rows : Tab} {fv rv : List V} (h : WkI P w tb C el H0 H' fa na ra found rows fv rv) (e : Ext P w tb C H' H'') : WkI P w tb C el H0 H'' fa na ra found rows fv rv :=
  ⟨h.e.trans e, e.lst h.f, Paired.mapP h.fp fun _ _ z => el.tup (fun _ _ y => e.tup y) z, e.keep _ _ h.n (mutO_plain (el.mu _)), e.lst h.r, Paired.mapP h.rp fun _ _ z => z.ext e, h.nf, h.nn, h.nr, h.d2⟩
/-- tuples stay when something that is to be changed is changed -/
theorem tup_upd {H : Hp} {p : Addr} {o o' : HO} (hp : H p = some o') (q : mutO o' = true) : ∀ a xs, H a = some (.tup xs) → upd H p o a = some (.tup xs) := fun a xs h => by
  rw [upd_ne (ne_of h hp fun z => by subst z; cases q)]
  exact h
/-- what walked is handed: a function at f with the promise sp makes nx -/
def spWalked (P : Program) (w : World) (tb : Tbs) (K : PySem.W.Frag) {α : Type} [DecidableEq α] (el : El α) (f : Addr) (spf : Sp) : Sp := fun vs H Q _ => ∃ (v0 : V) (x0 : α) (L : Addr) (ls : List V) (nx : α → Nat → α) (N : Nat) (G : α → Prop), vs = [v0, .ref L, .ref f] ∧ el.R H v0 x0 ∧ G x0 ∧ H L = some (.lst ls) ∧ ls.length ≤ 6 ∧ N ≤ 2000 ∧
  (∀ x c, G x → c < ls.length → G (nx x c)) ∧ (∀ l : List α, l.Nodup → (∀ x ∈ l, G x) → l.length ≤ N) ∧
  (∀ H' v x c lv, Ext P w tb (CM K) H H' → el.R H' v x → G x → ls[c]? = some lv → ∀ Q' : V → Hp → Prop, (∀ H'' v', Ext P w tb (CM K) H' H'' → el.R H'' v' (nx x c) → Q' v' H'') → spf [v, lv] H' Q' E0) ∧
  ∀ H' p fa ra found rows fv, Ext P w tb (CM K) H H' → Bfs nx ls.length x0 found rows → rows.length = found.length → (∀ x ∈ found, G x) → H' p = some (.tup [.ref fa, .ref ra]) → H' fa = some (.lst fv) → Paired (el.R H') fv found → TabT H' ra rows → Nw H fa → Q (.ref p) H'
theorem sc_d_walked : FnScope ["first", "letters", "product", "found", "numbers", "rows", "row", "letter", "one"] ["first", "letters", "product"] d_walked.scope := ⟨rfl, rfl, rfl, by decide +kernel, rfl, by decide +kernel, by decide +kernel⟩
-- ['first', 'letters', 'product', 'found', 'numbers', 'rows', 'row', 'letter', 'one'] cells ['found', 'numbers', 'product', 'rows']
theorem ok_walked {α : Type} [DecidableEq α] (el : El α) (T : Txt K mg) {fd fdf : FuncData} {f : Addr} {psf : List Str} {spf : Sp} (F : FunD K d_walked.name d_walked.qual d_walked.params d_walked.body d_walked.scope [] [] (He.fAd K d_walked.at_) fd)
    (GL : FnOk P w K mg base CX0 8 f fdf psf spf) (FL : PySem.W.FnAt f base) (bL : ∀ us : List Value, us.length = psf.length → bindArgs fdf ⟨us, []⟩ = pure (psf.zip us)) :
    FnOk P w K mg base CX0 9 (He.fAd K d_walked.at_) fd ["first", "letters", "product"] (spWalked P w tb K el f spf) := by
  refine okN F sc_d_walked (fun vs H Q E h => by
    obtain ⟨_, _, _, _, _, _, _, rfl, _⟩ := h
    rfl) fun cdv A outer s H vs Q E rm h => ?_
  obtain ⟨v0, x0, L, ls, nx, N, G, rfl, hv0, hG0, hL, hk6, hN, hGn, hGN, hp, q⟩ := h
  refine ⟨_, (pss_cons (ps_asg (pe_tup (pa_cons (pe_lst (pa_cons (pv 0) pa_nil)) (pa_cons (pe_disp1 (hu_of rm) (pv 0) pe_int) (pa_cons (pe_lst pa_nil) pa_nil)))) (pg_tup (n := 3) rfl (pgs_cons (pg_name (i := 3) sc_d_walked.nd rfl (Or.inr rfl)) (pgs_cons (pg_name (i := 4) sc_d_walked.nd rfl (Or.inr rfl)) (pgs_cons (pg_name (i := 5) sc_d_walked.nd rfl (Or.inr rfl)) pgs_nil)))))
      (pss_cons (ps_while PassesOwn.never (pt_cmpR (op_lt) (pe_callB call_len_seq (by rfl) T.n_len boot_len (pa_cons (pv 5) pa_nil)) (pe_callB call_len_seq (by rfl) T.n_len boot_len (pa_cons (pv 3) pa_nil)) (nomark _)) (pss_cons (ps_setLc (i := 6) (own := [("letter", 7)]) (g := gName 7) rfl sc_d_walked.nd rfl rfl (sw_true rfl rfl rfl (by decide +kernel)) (pi_list (pv 1)) (blkOk_by (N := ["first", "letters", "product", "found", "numbers", "rows", "row", "letter", "one"]) (sc := d_walked.scope) (by decide +kernel)) (fun _ _ _ _ _ => (pg_name (i := 7) sc_d_walked.nd rfl (Or.inl rfl))) (fun _ _ _ _ _ => pts_nil) (fun _ _ _ _ _ => pe_c (pe_callBs (i := 2) GL rm FL bL rfl (by first | exact .inl rfl | exact .inr (.inl rfl) | exact .inr (.inr rfl)) (pa_cons (pe_ix ix_list (pv 3) (pe_callB call_len_seq (by rfl) T.n_len boot_len (pa_cons (pv 5) pa_nil)) (fun _ _ => rfl)) (pa_cons (pv 7) pa_nil)))))
      (pss_cons (ps_for PassesOwn.never rfl (pi_list (pv 6)) (pg_name (i := 8) sc_d_walked.nd rfl (Or.inl rfl))
      (pss_one (ps_if (pt_cmp (pc_dnotin (hu_of rm) (pv 8) (pv 4))) (pss_cons (ps_dput (hu_of rm) (pv 4) (pv 8) (pe_callB call_len_seq (by rfl) T.n_len boot_len (pa_cons (pv 3) pa_nil)) rfl)
      (pss_one (ps_expr (pe_bm PySem.F.plainAttrs_list PySem.F.slot_list_append PySem.F.type_list_append mt_append (pv 3) (pa_cons (pv 8) pa_nil))))) pss_nil)))
      (pss_one (ps_expr (pe_bm PySem.F.plainAttrs_list PySem.F.slot_list_append PySem.F.type_list_append mt_append (pv 5) (pa_cons (pe_callTy call_tuple_of (by rfl) T.n_tuple boot_tuple (pa_cons (pe_lc (own := [("one", 8)]) (g := gName 8) rfl sc_d_walked.nd (pi_list (pv 6)) (blkOk_by (N := ["first", "letters", "product", "found", "numbers", "rows", "row", "letter", "one"]) (sc := d_walked.scope) (by decide +kernel)) (fun _ _ _ _ _ => (pg_name (i := 8) sc_d_walked.nd rfl (Or.inl rfl))) (fun _ _ _ _ _ => pts_nil) (fun _ _ _ _ _ => pe_c (pe_dget (hu_of rm) (pv 4) (pv 8) (fun _ _ => rfl)))) pa_nil)) pa_nil)))))))
      (pss_one (ps_ret (pe_tup (pa_cons (pv 3) (pa_cons (pe_callTy call_tuple_of (by rfl) T.n_tuple boot_tuple (pa_cons (pv 5) pa_nil)) pa_nil))))))), ?_⟩
  have hk0 : ls.length ≤ 10000 := by omega
  refine ⟨_, rfl, (by show 1 ≤ sizeLine; decide), fun fa hfa => ?_⟩
  have e1 := Ext.new (P := P) (w := w) (tb := tb) (C := CM K) (o := .lst [v0]) hfa
  refine fun na hna => ⟨_, rfl, upd_same, el.dic [(x0, .int 0)], el.one (x := x0) (y := .int 0) (el.tup (fun _ _ y => (e1.trans (Ext.new (P := P) (w := w) (tb := tb) (C := CM K) (o := .dK []) hna)).tup y) hv0), ?_⟩
  have nna : Nw H na := e1.nw hna
  have e2 := (e1.trans (Ext.new (P := P) (w := w) (tb := tb) (C := CM K) (o := .dK []) hna)).mut (o := el.dic [(x0, .int 0)]) nna upd_same rfl (fun _ _ _ _ _ => el.ni _ _ _ _)
  have hfn : fa ≠ na := fun z => by rw [← z, upd_same] at hna; cases hna
  refine ⟨Nat.zero_le _, fun ra hra => ?_⟩
  have e3 := e2.trans (Ext.new (P := P) (w := w) (tb := tb) (C := CM K) (o := .lst []) hra)
  refine ⟨(by show 3 ≤ sizeLine; decide), fun t ht => ?_⟩
  have et := Ext.new (P := P) (w := w) (tb := tb) (C := CM K) (o := .tup [.ref fa, .ref na, .ref ra]) ht
  have hfa2 : (upd (upd (upd (upd H fa (.lst [v0])) na (.dK [])) na (el.dic [(x0, .int 0)])) ra (.lst [])) fa = some (.lst [v0]) := by
    have h0 : (upd (upd (upd H fa (.lst [v0])) na (.dK [])) na (el.dic [(x0, .int 0)])) fa = some (.lst [v0]) := by rw [upd_ne hfn, upd_ne hfn, upd_same]
    rw [upd_ne (ne_of_none h0 hra)]
    exact h0
  have hra2 : fa ≠ ra := fun z => by rw [← z, upd_ne hfn, upd_ne hfn, upd_same] at hra; cases hra
  have w0 : WkI P w tb (CM K) el H (upd (upd (upd (upd H fa (.lst [v0])) na (.dK [])) na (el.dic [(x0, .int 0)])) ra (.lst [])) fa na ra [x0] [] [v0] [] :=
    ⟨e3, hfa2, .cons (el.tup (fun _ _ y => e3.tup y) hv0) .nil, by rw [upd_ne (fun z => by rw [← z, upd_same] at hra; cases hra), upd_same]; rfl, upd_same, .nil, .of hfa, nna, e2.nw hra, hra2⟩
  refine ⟨t, _, rfl, SqT.of upd_same, rfl, _, _, rfl, _, _, rfl, _, [], rfl, rfl, ?_⟩
  refine ⟨fun m σ H' => ∃ found rows fv rv y6 y8, σ = [some v0, some (.ref L), some (.ref f), some (.ref fa), some (.ref na), some (.ref ra), y6, none, y8] ∧ WkI P w tb (CM K) el H H' fa na ra found rows fv rv ∧ Bfs nx ls.length x0 found rows ∧ (∀ x ∈ found, G x) ∧ m = N - rows.length,
    ⟨N, [x0], [], [v0], [], none, none, rfl, w0.ext et, Bfs.start _ _ _, fun x hx => by rw [List.mem_singleton.mp hx]; exact hG0, rfl⟩, fun m σ H' hW => ?_⟩
  obtain ⟨found, rows, fv, rv, y6, y8, rfl, W, B, hGf, hm⟩ := hW
  have hfl : fv.length = found.length := paired_len W.fp
  have hrl : rv.length = rows.length := paired_len W.rp
  have hfN : found.length ≤ N := hGN found B.nd hGf
  refine ⟨_, rfl, ra, _, rfl, .inl (SqL.of W.r), _, rfl, fa, _, rfl, .inl (SqL.of W.f), _, _, rfl, rfl, _, rfl, ite2 (fun hlt => ?_) fun hge => ?_⟩
  · have hlt' : rows.length < found.length := by
      have := of_decide_eq_true hlt
      omega
    refine ⟨fun σ' H'' => ∃ m', m' < m ∧ (∃ found rows fv rv y6 y8, σ' = [some v0, some (.ref L), some (.ref f), some (.ref fa), some (.ref na), some (.ref ra), y6, none, y8] ∧ WkI P w tb (CM K) el H H'' fa na ra found rows fv rv ∧ Bfs nx ls.length x0 found rows ∧ (∀ x ∈ found, G x) ∧ m' = N - rows.length), fun σ' H'' h => h, ?_⟩
    have hx : found[rows.length]? = some found[rows.length] := List.getElem?_eq_getElem hlt'
    obtain ⟨vx, gx, rx⟩ := paired_get W.fp hx
    have hGx : G found[rows.length] := hGf _ (List.getElem_mem hlt')
    have hL' := W.e.lst hL
    refine ⟨_, rfl, lc_l (P := P) (w := w) (tb := tb) (C := CM K) hL' (fun _ i y H => el.R H y (nx found[rows.length] i)) (fun D i y H H' acc hD k r => el.tup (fun a xs h => k a _ (ne_of h hD fun z => by cases z) h rfl) r) hk0 (fun _ => ?_) (fun D i lv H5 acc hx5 e5 hD hac Qk qk => ?_) (fun D H5 ys hD e5 hy hl5 hr5 => ?_)⟩
    · rfl
    · have W5 := W.ext e5
      refine ⟨rfl, _, rfl, _, rfl, ra, _, rfl, .inl (SqL.of W5.r), _, _, _, _, rfl, rfl, SqL.of W5.f, atI_nat (j := rv.length) (v := vx) (by rw [hrl]; exact gx), _, rfl, ?_⟩
      exact hp H5 vx found[rows.length] i lv W5.e (el.tup (fun _ _ y => e5.tup y) rx) hGx hx5 Qk fun H'' v' e'' r' => qk v' H'' e'' r'
    · have W5 := W.ext e5
      have hxsl : ((List.range ls.length).map (nx found[rows.length])).length = ls.length := by simp
      have hpx : Paired (el.R H5) ys ((List.range ls.length).map (nx found[rows.length])) := paired_of (by rw [hl5, hxsl]) fun i y x hy hx => by
        have h1 := hr5 i y hy
        rw [List.getElem?_map] at hx
        obtain ⟨i', hi', rfl⟩ := Option.map_eq_some_iff.mp hx
        have hi2 : i < ls.length := by
          have := (List.getElem?_eq_some_iff.mp hi').1
          simpa using this
        rw [List.getElem?_range hi2] at hi'
        cases hi'
        exact h1
      generalize hxs : (List.range ls.length).map (nx found[rows.length]) = xs at hpx hxsl
      have hxsG : ∀ z ∈ xs, G z := fun z hz => by
        rw [← hxs] at hz
        obtain ⟨c, hc, rfl⟩ := List.mem_map.mp hz
        exact hGn _ c hGx (List.mem_range.mp hc)
      have nD : Nw H D := W.e.nw hD
      have hDf : D ≠ fa := fun z => by rw [z, W.f] at hD; cases hD
      have hDn : D ≠ na := fun z => by rw [z, W.n] at hD; cases hD
      have hDr : D ≠ ra := fun z => by rw [z, W.r] at hD; cases hD
      refine ⟨_, rfl, D, rfl, ⟨_, SqL.of hy⟩, for_it (walk_list (xs := ys)) (fun i σ H' => ∃ found' fv' y8, σ = [some v0, some (.ref L), some (.ref f), some (.ref fa), some (.ref na), some (.ref ra), some (.ref D), none, y8] ∧ WkI P w tb (CM K) el H H' fa na ra found' rows fv' rv ∧ H' D = some (.lst ys) ∧ Paired (el.R H') ys xs ∧ found' = grow found (xs.take i) ∧ (∀ x ∈ found', G x))
        ⟨found, fv, y8, rfl, W5, hy, hpx, by simp [grow_nil], hGf⟩ (fun i σ H' _ ⟨_, _, _, _, _, h, _⟩ => SqL.of h) (fun i v σ H' H6 hi ⟨found', fv', y8, es, W6, hD6, hp6, hg6, hG6⟩ hyy => ?_) fun σ H' ⟨found', fv', y8, es, W6, hD6, hp6, hg6, hG6⟩ => ?_⟩
      · obtain ⟨rfl, hv⟩ := hyy
        subst es
        obtain ⟨z, hz, rz⟩ := paired_get' hp6 hv
        have hval := el.get (x := z) W6.n rz
        have htake : xs.take (i + 1) = xs.take i ++ [z] := by rw [List.take_succ, hz]; rfl
        refine ⟨_, rfl, _, rfl, na, _, rfl, hval, _, rfl, ite2 (fun hnew => ?_) fun hold => ?_⟩
        · have hzn : z ∉ found' := fun hmem => by
            rw [numb_val, if_pos hmem] at hnew
            cases hnew
          have hvn : valV (numb found') z = none := by rw [numb_val, if_neg hzn]
          have hfN' : found'.length ≤ N := hGN found' (by rw [hg6]; exact grow_nodup _ _ B.nd) hG6
          have hfl' : fv'.length = found'.length := paired_len W6.fp
          have hsz : (numb found').length < sizeLine := line_of (by unfold numb; rw [List.length_mapIdx]; omega)
          refine ⟨_, rfl, fa, _, rfl, .inl (SqL.of W6.f), _, rfl, _, rfl, na, _, rfl, el.put (y := nv fv'.length) W6.n rz hvn hsz, ?_⟩
          have eq1 : numb (found' ++ [z]) = numb found' ++ [(z, nv fv'.length)] := by rw [numb_snoc, hfl']
          have kt := tup_upd (o := el.dic (numb found' ++ [(z, nv fv'.length)])) W6.n (el.mu _)
          have h7 : (upd H6 na (el.dic (numb found' ++ [(z, nv fv'.length)]))) fa = some (.lst fv') := by rw [upd_ne W6.d1]; exact W6.f
          have e7 := W6.e.mut (o := el.dic (numb found' ++ [(z, nv fv'.length)])) W6.nn W6.n (el.mu _) (fun _ _ _ _ _ => el.ni _ _ _ _)
          refine ⟨_, rfl, .inl ⟨rfl, _, SqL.of h7⟩, _, rfl, fa, _, _, rfl, rfl, h7, line_of (by omega), ?_⟩
          have kt2 := tup_upd (o := .lst (fv' ++ [v])) h7 rfl
          have ktt : ∀ a xs, H6 a = some (.tup xs) → upd (upd H6 na (el.dic (numb found' ++ [(z, nv fv'.length)]))) fa (.lst (fv' ++ [v])) a = some (.tup xs) := fun a xs h => kt2 a xs (kt a xs h)
          refine ⟨found' ++ [z], fv' ++ [v], some v, rfl, ⟨e7.mut W6.nf h7 rfl, upd_same, paired_app (Paired.mapP W6.fp fun _ _ y => el.tup ktt y) (.cons (el.tup ktt rz) .nil), ?_, ?_, Paired.mapP W6.rp fun _ _ y => y.mono ktt, W6.nf, W6.nn, W6.nr, W6.d2⟩, ?_, Paired.mapP hp6 fun _ _ y => el.tup ktt y, ?_, ?_⟩
          · rw [upd_ne W6.d1.symm, upd_same, eq1]
          · rw [upd_ne W6.d2.symm, upd_ne W6.d3]
            exact W6.r
          · rw [upd_ne hDf, upd_ne hDn]
            exact hD6
          · rw [htake, hg6]
            unfold grow
            rw [List.foldl_append]
            show _ = (if z ∈ grow found (xs.take i) then _ else _)
            rw [← hg6, if_neg hzn] <;> rfl
          · intro x hx
            rcases List.mem_append.mp hx with h | h
            · exact hG6 x h
            · rw [List.mem_singleton.mp h]
              exact hxsG z (List.mem_of_getElem? hz)
        · have hzn : z ∈ found' := Classical.byContradiction fun hmem => by
            rw [numb_val, if_neg hmem] at hold
            cases hold
          refine ⟨found', fv', some v, rfl, W6, hD6, hp6, ?_, hG6⟩
          rw [htake, hg6]
          unfold grow
          rw [List.foldl_append]
          show _ = (if z ∈ grow found (xs.take i) then _ else _)
          rw [← hg6, if_pos hzn]
      · subst es
        have hfull : found' = grow found xs := by
          rw [hg6]
          have : ys.length = xs.length := by rw [hl5, hxsl]
          rw [this, List.take_length]
        have hfN' : found'.length ≤ N := hGN found' (by rw [hg6]; exact grow_nodup _ _ B.nd) hG6
        refine ⟨_, rfl, .inl ⟨rfl, _, SqL.of W6.r⟩, ?_⟩
        refine ⟨_, rfl, lc_l (P := P) (w := w) (tb := tb) (C := CM K) hD6 (fun _ i y _ => ∀ x, xs[i]? = some x → y = nv (found'.idxOf x)) (fun D i y H H' acc hD k r => r) (by rw [hl5]; exact hk0) (fun _ => ?_) (fun D2 i v H7 acc hx7 e7 hD2 hac Qk qk => ?_) (fun D2 H7 zs hD2 e7 hy7 hl7 hr7 => ?_)⟩
        · rfl
        · have W7 := W6.ext e7
          obtain ⟨z, hz, rz⟩ := paired_get' hp6 hx7
          have hzm : z ∈ found' := by rw [hfull]; exact (grow_mem _ _ _).mpr (.inr (List.mem_of_getElem? hz))
          have hval := el.get (x := z) W7.n (el.tup (fun _ _ y => e7.tup y) rz)
          rw [numb_val, if_pos hzm] at hval
          refine ⟨_, rfl, _, rfl, na, _, rfl, hval, ?_⟩
          exact qk _ _ (.refl _) fun x hx => by rw [hz] at hx; cases hx; rfl
        · have ezs : zs = nvs (xs.map fun x => found'.idxOf x) := by
            unfold nvs
            rw [List.map_map]
            exact list_map (by rw [hl7, hl5, hxsl]) fun i y x hy hx => hr7 i y hy x hx
          subst ezs
          have W7 := W6.ext e7
          refine ⟨D2, _, rfl, .inl ⟨SqL.of hy7, fun r2 hr2 => ?_⟩⟩
          have e8 := Ext.new (P := P) (w := w) (tb := tb) (C := CM K) (o := .tup (nvs (xs.map fun x => found'.idxOf x))) hr2
          have W8 := W7.ext e8
          refine ⟨ra, _, _, rfl, rfl, W8.r, line_of (by omega), ?_⟩
          have kt := tup_upd (o := .lst (rv ++ [.ref r2])) W8.r rfl
          have BB := B.step hx
          rw [hxs, ← hfull] at BB
          refine ⟨N - (rows ++ [xs.map fun y => found'.idxOf y]).length, by rw [List.length_append, hm]; simp; omega, found', _, fv', rv ++ [.ref r2], some (.ref D), y8, rfl, ⟨W8.e.mut W8.nr W8.r rfl, ?_, Paired.mapP W8.fp fun _ _ y => el.tup kt y, ?_, upd_same, paired_app (Paired.mapP W8.rp fun _ _ y => y.mono kt) (.cons ⟨r2, rfl, kt _ _ upd_same⟩ .nil), W8.nf, W8.nn, W8.nr, W8.d2⟩, BB, hG6, rfl⟩
          · rw [upd_ne W8.d2]
            exact W8.f
          · rw [upd_ne W8.d3.symm]
            exact W8.n
  · have hfin : rows.length = found.length := by
      have := of_decide_eq_false hge
      have := B.le
      omega
    refine ⟨_, rfl, _, rfl, ra, _, rfl, .inl ⟨SqL.of W.r, fun rt hrt => ⟨(by show 2 ≤ sizeLine; decide), fun p hpp => ?_⟩⟩⟩
    have e8 := Ext.new (P := P) (w := w) (tb := tb) (C := CM K) (o := .tup rv) hrt
    have e9 := Ext.new (P := P) (w := w) (tb := tb) (C := CM K) (o := .tup [.ref fa, .ref rt]) hpp
    have W9 := (W.ext e8).ext e9
    exact q _ p fa rt found rows fv W9.e B hfin hGf upd_same W9.f W9.fp ⟨rv, e9.tup upd_same, W9.rp⟩ W9.nf
end
end K95
set_option Elab.async false
set_option linter.all false
set_option maxRecDepth 100000
set_option maxHeartbeats 4000000
set_option autoImplicit false
namespace K95
open PySem PySem.Spec PyProof.Rows L2
section
variable {P : Program} {w : World} {K : PySem.W.Frag} {mg : Str → Option Value} {base : Heap}
/-- a monoid is made -/
theorem make_mon {tb : Tbs} {H1 : Hp} {x dx : Addr} {T : Tab} {n k : Nat} {Q : Hp → Prop} {E : XK} (hx : H1 x = none) (hdx : H1 dx = none) (ne : dx ≠ x) {v : V} (hT : TabO H1 v T) (G : Good T n k)
    (q : ∀ H', Ext P w tb (CM K) H1 H' → MonAt P w (CM K) H' x T → Q H') : spInit P w tb K [.ref x, v] (upd (upd H1 dx (.own x)) x (.ins (CM K) dx [])) (fun v H2 => v = .non ∧ Q H2) E := by
  have e1 := Ext.new (P := P) (w := w) (tb := tb) (C := CM K) (o := .own x) hdx
  have hx1 : (upd H1 dx (.own x)) x = none := by rw [upd_ne ne.symm]; exact hx
  have e2 := e1.trans (Ext.new (P := P) (w := w) (tb := tb) (C := CM K) (o := .ins (CM K) dx []) hx1 (fun _ _ _ _ _ => not_mflds (by simp)))
  exact ⟨x, v, T, n, k, dx, H1, rfl, e2, .of hx, upd_same, hT.ext e2, G, fun H' e' h' => ⟨rfl, q H' e' h'⟩⟩
/-- the lambda: a product in the monoid that it holds -/
def spLamMul (P : Program) (w : World) (tb : Tbs) (K : PySem.W.Frag) (c' : Addr) (q : Str) (ws : List (Option V)) : Sp := fun vs H Q _ => ∃ (m : Addr) (T : Tab) (x y : Nat), vs = [nv x, nv y] ∧ ws = [some (.ref m)] ∧ Okk tb (CM K) H ∧ MonAt P w (CM K) H m T ∧ x < T.length ∧ y < T.length ∧ H c' = some (LamX.CodeO c' q) ∧ ∀ H', Ext P w tb (CM K) H H' → Q (nv (mul T x y)) H'
def lamIn (body : List Stmt) (i : Nat) : Expr := match body.getD i (.Pass ⟨0, 0, 0, 0⟩) with
  | .Assign _ (.Call _ [_, _, l] _ _) _ => l
  | _ => .Constant .none 0 ⟨0, 0, 0, 0⟩
def lamArgs : Expr → Arguments
  | .Lambda a _ _ _ => a
  | _ => ⟨[], [], none, [], [], none, []⟩
def lamBody : Expr → Expr
  | .Lambda _ b _ _ => b
  | e => e
def lamScope : Expr → Scope
  | .Lambda _ _ s _ => s
  | _ => default
theorem lam_times (tb : Tbs) (T : Txt K mg) {q : Str} {cl : List (Str × Addr)} {f c' : Addr} {pm ctv : Value} {ws : List (Option V)} (d : He.DefD) (i : Nat) (hd : (d = d_submonoid ∧ i = 2) ∨ (d = d_generated ∧ i = 3))
    (hobj : base.get? f = some (PySem.W.kla_obj "<lambda>" q (lamArgs (lamIn d.body i)) (lamBody (lamIn d.body i)) (lamScope (lamIn d.body i)) cl pm c' ctv)) (hC : NdefX.CellsAt cl ["monoid"] ws base fun _ => none) :
    FnOk P w K mg base CX0 8 f (PySem.W.kla_fn "<lambda>" q (lamArgs (lamIn d.body i)) (lamBody (lamIn d.body i)) (lamScope (lamIn d.body i)) cl pm (.ref c') ctv) ["one", "other"] (spLamMul P w tb K c' q ws) := by
  obtain ⟨fd_times, b_times, G_times⟩ := go_times (P := P) (w := w) (base := base) (tb := tb) T
  rcases hd with ⟨rfl, rfl⟩ | ⟨rfl, rfl⟩
  · refine lam_ok (N := ["one", "other", "monoid"]) (NdefX.nscope_by (by decide +kernel)) hobj hC (fun us hl => match us, hl with | [_, _], _ => rfl) (fun vs H Q E h => by
      obtain ⟨_, _, _, _, rfl, _⟩ := h
      rfl) (fun vs H Q E h => by
      obtain ⟨_, _, _, _, _, _, _, _, _, _, h, _⟩ := h
      exact h) fun A outer s H vs Q E rm h => ?_
    obtain ⟨m, T', x, y, rfl, rfl, ok, hM, hx, hy, hc, k⟩ := h
    have hM' := hM
    obtain ⟨_, dx, r, t, l, dd, hB, _⟩ := hM'
    exact ⟨_, pe_meth (pv 2) T.cl T.m_times G_times (rm.mono (by decide)) b_times .nil pass0 (pa_cons (pv 0) (pa_cons (pv 1) pa_nil)), ⟨_, rfl, m, dx, _, rfl, hB.ob, rfl, _, rfl, _, rfl, m, T', x, y, rfl, ok, hM, hx, hy, k⟩⟩
  · refine lam_ok (N := ["one", "other", "monoid"]) (NdefX.nscope_by (by decide +kernel)) hobj hC (fun us hl => match us, hl with | [_, _], _ => rfl) (fun vs H Q E h => by
      obtain ⟨_, _, _, _, rfl, _⟩ := h
      rfl) (fun vs H Q E h => by
      obtain ⟨_, _, _, _, _, _, _, _, _, _, h, _⟩ := h
      exact h) fun A outer s H vs Q E rm h => ?_
    obtain ⟨m, T', x, y, rfl, rfl, ok, hM, hx, hy, hc, k⟩ := h
    have hM' := hM
    obtain ⟨_, dx, r, t, l, dd, hB, _⟩ := hM'
    exact ⟨_, pe_meth (pv 2) T.cl T.m_times G_times (rm.mono (by decide)) b_times .nil pass0 (pa_cons (pv 0) (pa_cons (pv 1) pa_nil)), ⟨_, rfl, m, dx, _, rfl, hB.ob, rfl, _, rfl, _, rfl, m, T', x, y, rfl, ok, hM, hx, hy, k⟩⟩
def spSubmonoid (P : Program) (w : World) (K : PySem.W.Frag) : Sp := fun vs H Q _ => ∃ (m : Addr) (v : V) (T : Tab) (n k : Nat) (nums : List Nat), vs = [.ref m, v] ∧ Okk (tbK K) (CM K) H ∧ MonAt P w (CM K) H m T ∧ Good T n k ∧ RowO H v nums ∧ nums.length ≤ 6 ∧ (∀ x ∈ nums, x < n) ∧
  ∀ H' p vs' found rows, Ext P w (tbK K) (CM K) H H' → H' p = some (.tup vs') → vs'.length = found.length → Bfs (nxM T nums) nums.length 0 found rows → rows.length = found.length → Q (.ref p) H'
theorem sc_d_submonoid : FnScope ["monoid", "numbers", "found", "rows"] ["monoid", "numbers"] d_submonoid.scope := ⟨rfl, rfl, rfl, by decide +kernel, rfl, by decide +kernel, by decide +kernel⟩
-- ['monoid', 'numbers', 'found', 'rows'] cells ['monoid']
theorem go_submonoid (T : Txt K mg) (hTB : ∀ p ∈ tfL, LamX.TabB base mg (He.cT K p).1 (He.cT K p).2) : Go P w K mg base "submonoid" ["monoid", "numbers"] 10 (spSubmonoid P w K) := by
  obtain ⟨fd, F⟩ := T.fn 37
  obtain ⟨fdw, Fw⟩ := T.fn 36
  have bw : L2.Binds K fdw ["first", "letters", "product"] [] := Fw.bindsN (fun _ _ _ _ _ _ us hl => match us, hl with | [_, _, _], _ => rfl)
  obtain ⟨f_checked, fd_checked, m_checked, k_checked, b_checked, G_checked⟩ := go_checked (P := P) (w := w) (base := base) T
  obtain ⟨f_check_numbers, fd_check_numbers, m_check_numbers, k_check_numbers, b_check_numbers, G_check_numbers⟩ := go_check_numbers (P := P) (w := w) (base := base) (tb := tbK K) T
  have hin : (("submonoid", none) : He.Defn) ∈ tfL := by simp [tfL]
  refine ⟨_, fd, T.g_submonoid, F.kp, F.bindsN (fun _ _ _ _ _ _ us hl => match us, hl with | [_, _], _ => rfl), okC F sc_d_submonoid (fun vs H Q E h => by
    obtain ⟨_, _, _, _, _, _, rfl, _⟩ := h
    rfl) fun A outer s H vs Q E rm h => ?_⟩
  obtain ⟨m, v, T', n, k, nums, rfl, ok, hM, hG, hv, h6, hnn, q⟩ := h
  have hlen := hG.form.len
  have n2 := hG.form.n2
  have hM' := hM
  obtain ⟨_, dx, r, t, l, dd, hB, _⟩ := hM'
  refine ⟨_, (pss_cons (ps_expr (pe_call G_checked (rm.mono (by decide)) rfl m_checked k_checked b_checked .nil pass0 (pa_cons (pv 0) pa_nil)))
      (pss_cons (ps_expr (pe_call G_check_numbers (rm.mono (by decide)) rfl m_check_numbers k_check_numbers b_check_numbers .nil pass0 (pa_cons (pv 0) (pa_cons (pv 1) pa_nil))))
      (pss_cons (ps_asg (pe_lam3 (tb := tbK K) (q := lamQ ("submonoid", none)) (fr := ["monoid"]) (js := [0]) (spg := fun f c' ws => spWalked P w (tbK K) K elN f (spLamMul P w (tbK K) K c' (lamQ ("submonoid", none)) ws)) rfl rfl T.g_walked Fw.kp bw (rm.mono (by decide)) (hTB _ hin) rfl (Txt.inTb hin) (T.one hin) rfl (free_by (sc := d_submonoid.scope) (by decide +kernel)) (by decide +kernel) rfl (fun _ => rfl) (fun base' f c' pm ctv cl ws ho hC => ok_walked elN T Fw (lam_times (tbK K) T d_submonoid 2 (.inl ⟨rfl, rfl⟩) ho hC) ⟨_, _, _, _, ho⟩ (fun us hl => match us, hl with | [_, _], _ => rfl)) pe_int (pe_callTy call_list_of (by rfl) T.n_list boot_list (pa_cons (pv 1) pa_nil))) (pg_tup rfl (pgs_cons (pg_name (i := 2) sc_d_submonoid.nd rfl (Or.inl rfl)) (pgs_cons (pg_name (i := 3) sc_d_submonoid.nd rfl (Or.inl rfl)) pgs_nil))))
      (pss_one (ps_ret (pe_callTy call_tuple_of (by rfl) T.n_tuple boot_tuple (pa_cons (pe_callB cr_sortedI (by rfl) T.n_sorted boot_sorted (pa_cons (pv 2) pa_nil)) pa_nil))))))), ?_⟩
  refine ⟨_, rfl, m, dx, _, rfl, hB.ob, ?_⟩
  refine ⟨_, rfl, _, rfl, m, T', v, nums, rfl, ok, hM, hv, fun x hx => by rw [hlen]; exact hnn x hx, fun H1 e1 => ?_⟩
  obtain ⟨a, rfl, ha⟩ := hv
  refine ⟨_, rfl, a, _, rfl, SeqA.sq (SeqA.ext e1 ha), fun L hL => ?_⟩
  have e2 := e1.trans (Ext.new (P := P) (w := w) (tb := tbK K) (C := CM K) (o := .lst (nvs nums)) hL)
  refine ⟨(e2.ok ok).tab, fun f c' H3 eN few t3 hco => ?_⟩
  have e3 := e2.trans (Ext.few (P := P) (w := w) (C := CM K) eN few t3)
  have hL3 : H3 L = some (.lst (nvs nums)) := eN L _ upd_same (fun ps z => by cases z)
  refine ⟨nv 0, 0, L, nvs nums, nxM T' nums, n, fun x => x < n, rfl, rfl, hG.form.n1, hL3, by rw [nvs_len]; exact h6, n2, fun x c hx _ => nxM_lt hG hnn hx c, fun l hl h => nodup_lt hl h, fun H' v x c lv e' hR hx hc Q' k' => ?_, fun H' p fa ra found rows fv e' B hl hG' hp hfa hfv hra nfa => ?_⟩
  · rw [nvs_get] at hc
    obtain ⟨y, hy, rfl⟩ := Option.map_eq_some_iff.mp hc
    have hyn := hnn y (List.mem_of_getElem? hy)
    have eT := e3.trans e'
    have hR' : v = nv x := hR
    subst hR'
    refine ⟨m, T', x, y, rfl, rfl, eT.ok ok, eT.mon ok m T' hM, by rw [hlen]; exact hx, by rw [hlen]; exact hyn, e'.code _ _ hco, fun H'' e'' => k' H'' _ e'' ?_⟩
    show nv (mul T' x y) = nv (nxM T' nums x c)
    unfold nxM
    rw [List.getD_eq_getElem?_getD, hy] <;> rfl
  · have eT := e3.trans e'
    have hfv' : fv = nvs found := by
      have h0 : ∀ {a : List V} {b : List Nat}, Paired (fun v x => v = nv x) a b → a = nvs b := fun p => by
        induction p with
        | nil => rfl
        | cons r t ih => rw [r, ih]; rfl
      exact h0 hfv
    subst hfv'
    rw [nvs_len] at B
    refine ⟨p, _, rfl, SqT.of hp, rfl, _, _, rfl, _, [], rfl, rfl, ?_⟩
    refine ⟨_, rfl, fa, found.map fun (x : Nat) => (x : Int), rfl, SqL.of (by rw [hfa]; unfold nvs; rw [List.map_map]; rfl), fun ns' p2 hperm _ hp2 => ?_⟩
    refine ⟨p2, _, rfl, .inl ⟨SqL.of upd_same, fun p3 hp3 => ?_⟩⟩
    refine q _ p3 _ found rows ((eT.trans (Ext.new hp2)).trans (Ext.new hp3)) upd_same ?_ B hl
    rw [List.length_map, hperm.length_eq, List.length_map]
def spGenerated (P : Program) (w : World) (K : PySem.W.Frag) : Sp := fun vs H Q _ => ∃ (m : Addr) (v : V) (T : Tab) (n k : Nat) (nums : List Nat), vs = [.ref m, v] ∧ Okk (tbK K) (CM K) H ∧ MonAt P w (CM K) H m T ∧ Good T n k ∧ RowO H v nums ∧ 1 ≤ nums.length ∧ nums.length ≤ 6 ∧ (∀ x ∈ nums, x < n) ∧
  ∀ H' p m' v' found rows, Ext P w (tbK K) (CM K) H H' → H' p = some (.tup [.ref m', v']) → MonAt P w (CM K) H' m' rows → IntTup H' v' found → Bfs (nxM T nums) nums.length 0 found rows → rows.length = found.length → Q (.ref p) H'
theorem nvs_of {a : List V} {b : List Nat} (p : Paired (fun v x => v = nv x) a b) : a = nvs b := by
  induction p with
  | nil => rfl
  | cons r t ih => rw [r, ih]; rfl
theorem sc_d_generated : FnScope ["monoid", "numbers", "found", "rows"] ["monoid", "numbers"] d_generated.scope := ⟨rfl, rfl, rfl, by decide +kernel, rfl, by decide +kernel, by decide +kernel⟩
-- ['monoid', 'numbers', 'found', 'rows'] cells ['monoid']
theorem go_generated (T : Txt K mg) (hTB : ∀ p ∈ tfL, LamX.TabB base mg (He.cT K p).1 (He.cT K p).2) : Go P w K mg base "generated" ["monoid", "numbers"] 10 (spGenerated P w K) := by
  obtain ⟨fd, F⟩ := T.fn 38
  obtain ⟨fdw, Fw⟩ := T.fn 36
  have bw : L2.Binds K fdw ["first", "letters", "product"] [] := Fw.bindsN (fun _ _ _ _ _ _ us hl => match us, hl with | [_, _, _], _ => rfl)
  obtain ⟨f_checked, fd_checked, m_checked, k_checked, b_checked, G_checked⟩ := go_checked (P := P) (w := w) (base := base) T
  obtain ⟨f_is_sequence, fd_is_sequence, m_is_sequence, k_is_sequence, b_is_sequence, G_is_sequence⟩ := go_is_sequence (P := P) (w := w) (base := base) (tb := tbK K) T
  obtain ⟨f_check_numbers, fd_check_numbers, m_check_numbers, k_check_numbers, b_check_numbers, G_check_numbers⟩ := go_check_numbers (P := P) (w := w) (base := base) (tb := tbK K) T
  obtain ⟨fd_init, b_init, G_init⟩ := go_init (P := P) (w := w) (base := base) (tb := tbK K) T
  obtain ⟨t_MOST_LETTERS_parts, h_MOST_LETTERS_parts⟩ := T.i_MOST_LETTERS_parts
  have hin : (("generated", none) : He.Defn) ∈ tfL := by simp [tfL]
  refine ⟨_, fd, T.g_generated, F.kp, F.bindsN (fun _ _ _ _ _ _ us hl => match us, hl with | [_, _], _ => rfl), okC F sc_d_generated (fun vs H Q E h => by
    obtain ⟨_, _, _, _, _, _, rfl, _⟩ := h
    rfl) fun A outer s H vs Q E rm h => ?_⟩
  obtain ⟨m, v, T', n, k, nums, rfl, ok, hM, hG, hv, h1, h6, hnn, q⟩ := h
  have hlen := hG.form.len
  have n2 := hG.form.n2
  have hM' := hM
  obtain ⟨_, dx, r, t, l, dd, hB, _⟩ := hM'
  refine ⟨_, (pss_cons (ps_expr (pe_call G_checked (rm.mono (by decide)) rfl m_checked k_checked b_checked .nil pass0 (pa_cons (pv 0) pa_nil)))
      (pss_cons (ps_if (PW.pt (pw_or (pt_not (pt_val (pe_call G_is_sequence (rm.mono (by decide)) rfl m_is_sequence k_is_sequence b_is_sequence .nil pass0 (pa_cons (pv 1) pa_nil)))) (pw_or1 (pt_not (pt_chain op_le op_le pe_int (pe_callB call_len_seq (by rfl) T.n_len boot_len (pa_cons (pv 1) pa_nil)) (pe_glob (v := .int 6) rfl h_MOST_LETTERS_parts ⟨_, rfl⟩)))))) (pss_one (ps_never)) pss_nil)
      (pss_cons (ps_expr (pe_call G_check_numbers (rm.mono (by decide)) rfl m_check_numbers k_check_numbers b_check_numbers .nil pass0 (pa_cons (pv 0) (pa_cons (pv 1) pa_nil))))
      (pss_cons (ps_asg (pe_lam3 (tb := tbK K) (q := lamQ ("generated", none)) (fr := ["monoid"]) (js := [0]) (spg := fun f c' ws => spWalked P w (tbK K) K elN f (spLamMul P w (tbK K) K c' (lamQ ("generated", none)) ws)) rfl rfl T.g_walked Fw.kp bw (rm.mono (by decide)) (hTB _ hin) rfl (Txt.inTb hin) (T.one hin) rfl (free_by (sc := d_generated.scope) (by decide +kernel)) (by decide +kernel) rfl (fun _ => rfl) (fun base' f c' pm ctv cl ws ho hC => ok_walked elN T Fw (lam_times (tbK K) T d_generated 3 (.inr ⟨rfl, rfl⟩) ho hC) ⟨_, _, _, _, ho⟩ (fun us hl => match us, hl with | [_, _], _ => rfl)) pe_int (pe_callTy call_list_of (by rfl) T.n_list boot_list (pa_cons (pv 1) pa_nil))) (pg_tup rfl (pgs_cons (pg_name (i := 2) sc_d_generated.nd rfl (Or.inl rfl)) (pgs_cons (pg_name (i := 3) sc_d_generated.nd rfl (Or.inl rfl)) pgs_nil))))
      (pss_one (ps_ret (pe_tup (pa_cons (pe_make T.mkr G_init (rm.mono (by decide)) rfl T.g_Monoid b_init .nil pass0 (pa_cons (pv 3) pa_nil)) (pa_cons (pe_callTy call_tuple_of (by rfl) T.n_tuple boot_tuple (pa_cons (pv 2) pa_nil)) pa_nil))))))))), ?_⟩
  refine ⟨_, rfl, m, dx, _, rfl, hB.ob, ?_⟩
  refine ⟨_, rfl, _, _, rfl, hv, fun H0 e0 => ⟨true, rfl, iteF rfl ?_⟩⟩
  have hv0 : SeqO H0 v (nvs nums) := SeqO.ext e0 hv
  obtain ⟨a, rfl, ha⟩ := hv
  refine ⟨_, rfl, a, _, rfl, SeqA.sq (SeqA.ext e0 ha), _, _, rfl, rfl, _, rfl, iteT (decide_eq_true (by rw [nvs_len]; omega)) ?_⟩
  refine ⟨_, _, rfl, rfl, _, rfl, iteF (by rw [decide_eq_true (by rw [nvs_len]; omega)]; rfl) ?_⟩
  refine ⟨_, rfl, _, rfl, m, T', _, nums, rfl, e0.ok ok, e0.mon ok m T' hM, hv0, fun x hx => by rw [hlen]; exact hnn x hx, fun H1 e01 => ?_⟩
  have e1 := e0.trans e01
  refine ⟨_, rfl, a, _, rfl, SeqA.sq (SeqA.ext e1 ha), fun L hL => ?_⟩
  have e2 := e1.trans (Ext.new (P := P) (w := w) (tb := tbK K) (C := CM K) (o := .lst (nvs nums)) hL)
  refine ⟨(e2.ok ok).tab, fun f c' H3 eN few t3 hco => ?_⟩
  have e3 := e2.trans (Ext.few (P := P) (w := w) (C := CM K) eN few t3)
  have hL3 : H3 L = some (.lst (nvs nums)) := eN L _ upd_same (fun ps z => by cases z)
  refine ⟨nv 0, 0, L, nvs nums, nxM T' nums, n, fun x => x < n, rfl, rfl, hG.form.n1, hL3, by rw [nvs_len]; exact h6, n2, fun x c hx _ => nxM_lt hG hnn hx c, fun l hl h => nodup_lt hl h, fun H' v x c lv e' hR hx hc Q' k' => ?_, fun H' p fa ra found rows fv e' B hl hG' hp hfa hfv hra nfa => ?_⟩
  · rw [nvs_get] at hc
    obtain ⟨y, hy, rfl⟩ := Option.map_eq_some_iff.mp hc
    have hyn := hnn y (List.mem_of_getElem? hy)
    have eT := e3.trans e'
    have hR' : v = nv x := hR
    subst hR'
    refine ⟨m, T', x, y, rfl, rfl, eT.ok ok, eT.mon ok m T' hM, by rw [hlen]; exact hx, by rw [hlen]; exact hyn, e'.code _ _ hco, fun H'' e'' => k' H'' _ e'' ?_⟩
    show nv (mul T' x y) = nv (nxM T' nums x c)
    unfold nxM
    rw [List.getD_eq_getElem?_getD, hy] <;> rfl
  · have eT := e3.trans e'
    have hfv' : fv = nvs found := nvs_of hfv
    subst hfv'
    rw [nvs_len] at B
    obtain ⟨gG, gn, gl⟩ := gen_good hG hnn h1 h6 B hl
    refine ⟨p, _, rfl, SqT.of hp, rfl, _, _, rfl, _, [], rfl, rfl, ?_⟩
    have hraO : TabO H' (.ref ra) rows := by
      obtain ⟨rv, r1, r2⟩ := hra
      refine ⟨rv, ⟨ra, rfl, .inl r1⟩, Paired.mapP r2 fun _ _ z => ?_⟩
      obtain ⟨b, e1, e2⟩ := z
      exact ⟨b, e1, .inl e2⟩
    refine ⟨_, rfl, fun x dx hx hdx ne => make_mon hx hdx ne hraO gG fun H5 e5 hM5 => ?_⟩
    refine ⟨_, rfl, fa, _, rfl, .inl ⟨SqL.of (e5.lst hfa), fun p2 hp2 => ?_⟩⟩
    have e6 := Ext.new (P := P) (w := w) (tb := tbK K) (C := CM K) (o := .tup (nvs found)) hp2
    refine ⟨(by show 2 ≤ sizeLine; decide), fun p3 hp3 => ?_⟩
    have e7 := Ext.new (P := P) (w := w) (tb := tbK K) (C := CM K) (o := .tup [.ref x, .ref p2]) hp3
    have ok5 := (eT.trans e5).ok ok
    have e67 := e6.trans e7
    exact q _ p3 x (.ref p2) found rows ((eT.trans e5).trans e67) upd_same (e67.mon ok5 _ _ hM5) ⟨p2, rfl, e7.tup upd_same⟩ B hl
end
end K95
set_option Elab.async false
set_option linter.all false
set_option maxRecDepth 100000
set_option maxHeartbeats 4000000
set_option autoImplicit false
namespace K95
open PySem PySem.Spec PyProof.Rows L2
section
variable {P : Program} {w : World} {K : PySem.W.Frag} {mg : Str → Option Value} {base : Heap} {tb : Tbs}
def spPairBehind (P : Program) (w : World) (tb : Tbs) (K : PySem.W.Frag) : Sp := fun vs H Q _ => ∃ (m1 m2 : Addr) (v1 v2 : V) (A B : Tab) (n1 k1 n2 k2 : Nat) (p l : Nat × Nat), vs = [.ref m1, .ref m2, v1, v2] ∧ MonAt P w (CM K) H m1 A ∧ MonAt P w (CM K) H m2 B ∧ Good A n1 k1 ∧ Good B n2 k2 ∧ PairTup H v1 p ∧ PairTup H v2 l ∧ inD n1 n2 p ∧ l ∈ ltsD k1 k2 ∧
  ∀ H' v, Ext P w tb (CM K) H H' → PairTup H' v (stepD A B p l) → Q v H'
theorem sc_d_pair_behind : FnScope ["one", "other", "pair", "letter"] ["one", "other", "pair", "letter"] d_pair_behind.scope := ⟨rfl, rfl, rfl, by decide +kernel, rfl, by decide +kernel, by decide +kernel⟩
theorem go_pair_behind (T : Txt K mg) : Go P w K mg base "pair_behind" ["one", "other", "pair", "letter"] 1 (spPairBehind P w tb K) := by
  obtain ⟨fd, F⟩ := T.fn 41
  refine ⟨_, fd, T.g_pair_behind, F.kp, F.bindsN (fun _ _ _ _ _ _ us hl => match us, hl with | [_, _, _, _], _ => rfl), okN F sc_d_pair_behind (fun vs H Q E h => by
    obtain ⟨_, _, _, _, _, _, _, _, _, _, _, _, rfl, _⟩ := h
    rfl) (fun cdv A outer s H vs Q E rm h => ?_)⟩
  obtain ⟨m1, m2, v1, v2, AA, BB, n1, k1, n2, k2, p, l, rfl, hM1, hM2, G1, G2, ⟨a1, rfl, h1⟩, ⟨a2, rfl, h2⟩, hin, hl, q⟩ := h
  obtain ⟨_, dx1, r1, t1, l1, d1, B1, _⟩ := hM1
  obtain ⟨_, dx2, r2, t2, l2, d2, B2, _⟩ := hM2
  obtain ⟨rs1, a11, a12⟩ := B1.right
  obtain ⟨rs2, a21, a22⟩ := B2.right
  refine ⟨_, (pss_cons (ps_if (pt_cmpR (op_eq) (pe_ix ix_tup (pv 3) pe_int (fun _ _ => rfl)) pe_int (nomark _)) (pss_one (ps_ret (pe_tup (pa_cons (pe_ix ix_tup (pe_ix ix_tup (pe_fld (pv 0) rfl) (pe_ix ix_tup (pv 2) pe_int (fun _ _ => rfl)) (fun _ _ => rfl)) (pe_ix ix_tup (pv 3) pe_int (fun _ _ => rfl)) (fun _ _ => rfl)) (pa_cons (pe_ix ix_tup (pv 2) pe_int (fun _ _ => rfl)) pa_nil))))) pss_nil)
      (pss_one (ps_ret (pe_tup (pa_cons (pe_ix ix_tup (pv 2) pe_int (fun _ _ => rfl)) (pa_cons (pe_ix ix_tup (pe_ix ix_tup (pe_fld (pv 1) rfl) (pe_ix ix_tup (pv 2) pe_int (fun _ _ => rfl)) (fun _ _ => rfl)) (pe_ix ix_tup (pv 3) pe_int (fun _ _ => rfl)) (fun _ _ => rfl)) pa_nil)))))), ?_⟩
  refine ⟨_, rfl, _, _, _, _, rfl, rfl, SqT.of h2, atI_nat (j := 0) rfl, rfl, _, rfl, ?_⟩
  rcases ltsD_mem hl with ⟨e1, e2⟩ | ⟨e1, e2⟩
  · obtain ⟨row, g1, g2⟩ := G1.form.get hin.1 e2
    obtain ⟨v, g3, b, rfl, g4⟩ := paired_get a12 g1
    refine iteT (by rw [e1]; rfl) ?_
    refine ⟨_, rfl, _, _, dx1, _, _, rfl, B1.ob, T.cl, T.no_right, rfl, _, rfl, _, _, _, _, rfl, rfl, SqT.of h1, atI_nat (j := 0) rfl, _, _, _, _, rfl, rfl, SqT.of a11, atI_nat g3, ?_⟩
    refine ⟨_, rfl, _, _, _, _, rfl, rfl, SqT.of h2, atI_nat (j := 1) rfl, _, _, _, _, rfl, rfl, SqT.of g4, atI_nat (v := nv (step AA p.1 l.2)) (by rw [nvs_get, g2]; rfl), ?_⟩
    refine ⟨_, rfl, _, _, _, _, rfl, rfl, SqT.of h1, atI_nat (j := 1) rfl, (by show 2 ≤ sizeLine; decide), fun t ht => ?_⟩
    refine q _ _ (.new ht) ⟨t, rfl, ?_⟩
    rw [upd_same]
    unfold stepD
    rw [if_pos e1]
  · obtain ⟨row, g1, g2⟩ := G2.form.get hin.2 e2
    obtain ⟨v, g3, b, rfl, g4⟩ := paired_get a22 g1
    refine iteF (by rw [e1]; rfl) ?_
    refine ⟨_, rfl, _, _, _, _, rfl, rfl, SqT.of h1, atI_nat (j := 0) rfl, ?_⟩
    refine ⟨_, rfl, _, _, dx2, _, _, rfl, B2.ob, T.cl, T.no_right, rfl, _, rfl, _, _, _, _, rfl, rfl, SqT.of h1, atI_nat (j := 1) rfl, _, _, _, _, rfl, rfl, SqT.of a21, atI_nat g3, ?_⟩
    refine ⟨_, rfl, _, _, _, _, rfl, rfl, SqT.of h2, atI_nat (j := 1) rfl, _, _, _, _, rfl, rfl, SqT.of g4, atI_nat (v := nv (step BB p.2 l.2)) (by rw [nvs_get, g2]; rfl), ?_⟩
    refine ⟨(by show 2 ≤ sizeLine; decide), fun t ht => ?_⟩
    refine q _ _ (.new ht) ⟨t, rfl, ?_⟩
    rw [upd_same]
    unfold stepD
    rw [if_neg (by omega)]
/-- the lambda of the direct product -/
def spLamPair (P : Program) (w : World) (tb : Tbs) (K : PySem.W.Frag) (c' : Addr) (q : Str) (ws : List (Option V)) : Sp := fun vs H Q _ => ∃ (m1 m2 : Addr) (v1 v2 : V) (A B : Tab) (n1 k1 n2 k2 : Nat) (p l : Nat × Nat), vs = [v1, v2] ∧ ws = [some (.ref m1), some (.ref m2)] ∧ MonAt P w (CM K) H m1 A ∧ MonAt P w (CM K) H m2 B ∧ Good A n1 k1 ∧ Good B n2 k2 ∧ PairTup H v1 p ∧ PairTup H v2 l ∧ inD n1 n2 p ∧ l ∈ ltsD k1 k2 ∧ H c' = some (LamX.CodeO c' q) ∧
  ∀ H' v, Ext P w tb (CM K) H H' → PairTup H' v (stepD A B p l) → Q v H'
theorem lam_pair (tb : Tbs) (T : Txt K mg) {q : Str} {cl : List (Str × Addr)} {f c' : Addr} {pm ctv : Value} {ws : List (Option V)}
    (hobj : base.get? f = some (PySem.W.kla_obj "<lambda>" q (lamArgs (lamIn d_direct.body 6)) (lamBody (lamIn d_direct.body 6)) (lamScope (lamIn d_direct.body 6)) cl pm c' ctv)) (hC : NdefX.CellsAt cl ["one", "other"] ws base fun _ => none) :
    FnOk P w K mg base CX0 8 f (PySem.W.kla_fn "<lambda>" q (lamArgs (lamIn d_direct.body 6)) (lamBody (lamIn d_direct.body 6)) (lamScope (lamIn d_direct.body 6)) cl pm (.ref c') ctv) ["pair", "letter"] (spLamPair P w tb K c' q ws) := by
  obtain ⟨fp, fdp, mp, kp, bp, Gp⟩ := go_pair_behind (P := P) (w := w) (base := base) (tb := tb) T
  refine lam_ok (N := ["pair", "letter", "one", "other"]) (NdefX.nscope_by (by decide +kernel)) hobj hC (fun us hl => match us, hl with | [_, _], _ => rfl) (fun vs H Q E h => by
    obtain ⟨_, _, _, _, _, _, _, _, _, _, _, _, rfl, _⟩ := h
    rfl) (fun vs H Q E h => by
    obtain ⟨_, _, _, _, _, _, _, _, _, _, _, _, _, _, _, _, _, _, _, _, _, _, h, _⟩ := h
    exact h) fun A outer s H vs Q E rm h => ?_
  obtain ⟨m1, m2, v1, v2, AA, BB, n1, k1, n2, k2, p, l, rfl, rfl, hM1, hM2, G1, G2, h1, h2, hin, hl, hc, k⟩ := h
  exact ⟨_, pe_call Gp (rm.mono (by decide)) rfl mp kp bp .nil pass0 (pa_cons (pv 2) (pa_cons (pv 3) (pa_cons (pv 0) (pa_cons (pv 1) pa_nil)))), ⟨_, rfl, _, rfl, _, rfl, _, rfl, m1, m2, v1, v2, AA, BB, n1, k1, n2, k2, p, l, rfl, hM1, hM2, G1, G2, h1, h2, hin, hl, k⟩⟩
def spDirect (P : Program) (w : World) (K : PySem.W.Frag) : Sp := fun vs H Q _ => ∃ (m1 m2 : Addr) (A B : Tab) (n1 k1 n2 k2 : Nat), vs = [.ref m1, .ref m2] ∧ Okk (tbK K) (CM K) H ∧ MonAt P w (CM K) H m1 A ∧ MonAt P w (CM K) H m2 B ∧ Good A n1 k1 ∧ Good B n2 k2 ∧ k1 + k2 ≤ 6 ∧ n1 * n2 ≤ 2000 ∧
  ∀ H' p m' v' found rows, Ext P w (tbK K) (CM K) H H' → H' p = some (.tup [.ref m', v']) → MonAt P w (CM K) H' m' rows → Bfs (nxD A B k1 k2) (k1 + k2) (0, 0) found rows → rows.length = found.length → Good rows found.length (k1 + k2) → found.length ≤ n1 * n2 → Q (.ref p) H'
theorem sc_d_direct : FnScope ["one", "other", "letters", "letter", "found", "rows"] ["one", "other"] d_direct.scope := ⟨rfl, rfl, rfl, by decide +kernel, rfl, by decide +kernel, by decide +kernel⟩
-- ['one', 'other', 'letters', 'letter', 'found', 'rows'] cells ['one', 'other']
theorem go_direct (T : Txt K mg) (hTB : ∀ p ∈ tfL, LamX.TabB base mg (He.cT K p).1 (He.cT K p).2) : Go P w K mg base "direct" ["one", "other"] 10 (spDirect P w K) := by
  obtain ⟨fd, F⟩ := T.fn 42
  obtain ⟨fdw, Fw⟩ := T.fn 36
  have bw : L2.Binds K fdw ["first", "letters", "product"] [] := Fw.bindsN (fun _ _ _ _ _ _ us hl => match us, hl with | [_, _, _], _ => rfl)
  obtain ⟨f_checked, fd_checked, m_checked, k_checked, b_checked, G_checked⟩ := go_checked (P := P) (w := w) (base := base) T
  obtain ⟨fd_init, b_init, G_init⟩ := go_init (P := P) (w := w) (base := base) (tb := tbK K) T
  obtain ⟨t_MOST_LETTERS_parts, h_MOST_LETTERS_parts⟩ := T.i_MOST_LETTERS_parts
  obtain ⟨t_MOST_ELEMENTS_parts, h_MOST_ELEMENTS_parts⟩ := T.i_MOST_ELEMENTS_parts
  have hin : (("direct", none) : He.Defn) ∈ tfL := by simp [tfL]
  refine ⟨_, fd, T.g_direct, F.kp, F.bindsN (fun _ _ _ _ _ _ us hl => match us, hl with | [_, _], _ => rfl), okC F sc_d_direct (fun vs H Q E h => by
    obtain ⟨_, _, _, _, _, _, _, _, rfl, _⟩ := h
    rfl) fun A outer s H vs Q E rm h => ?_⟩
  obtain ⟨m1, m2, AA, BB, n1, k1, n2, k2, rfl, ok, hM1, hM2, G1, G2, hk, hn, q⟩ := h
  refine ⟨_, (pss_cons (ps_expr (pe_call G_checked (rm.mono (by decide)) rfl m_checked k_checked b_checked .nil pass0 (pa_cons (pv 0) pa_nil)))
      (pss_cons (ps_expr (pe_call G_checked (rm.mono (by decide)) rfl m_checked k_checked b_checked .nil pass0 (pa_cons (pv 1) pa_nil)))
      (pss_cons (ps_setLc (i := 2) (own := [("letter", 3)]) (g := gName 3) rfl sc_d_direct.nd rfl rfl (sw_true rfl rfl rfl (by decide +kernel)) (pi_range1 rfl T.n_range (pa_cons (pe_callB call_len_seq (by rfl) T.n_len boot_len (pa_cons (pe_ix ix_tup (pe_fld (pv 0) rfl) pe_int (fun _ _ => rfl)) pa_nil)) pa_nil)) (blkOk_by (N := ["one", "other", "letters", "letter", "found", "rows"]) (sc := d_direct.scope) (by decide +kernel)) (fun _ _ _ _ _ => (pg_name (i := 3) sc_d_direct.nd rfl (Or.inl rfl))) (fun _ _ _ _ _ => pts_nil) (fun _ _ _ _ _ => pe_c (pe_tup (pa_cons pe_int (pa_cons (pv 3) pa_nil)))))
      (pss_cons (ps_set (i := 2) sc_d_direct.nd rfl (Or.inl rfl) (pe_op op_cat (pv 2) (pe_lc (own := [("letter", 3)]) (g := gName 3) rfl sc_d_direct.nd (pi_range1 rfl T.n_range (pa_cons (pe_callB call_len_seq (by rfl) T.n_len boot_len (pa_cons (pe_ix ix_tup (pe_fld (pv 1) rfl) pe_int (fun _ _ => rfl)) pa_nil)) pa_nil)) (blkOk_by (N := ["one", "other", "letters", "letter", "found", "rows"]) (sc := d_direct.scope) (by decide +kernel)) (fun _ _ _ _ _ => (pg_name (i := 3) sc_d_direct.nd rfl (Or.inl rfl))) (fun _ _ _ _ _ => pts_nil) (fun _ _ _ _ _ => pe_c (pe_tup (pa_cons pe_int (pa_cons (pv 3) pa_nil)))))))
      (pss_cons (ps_if (pt_cmpR (op_gt) (pe_callB call_len_seq (by rfl) T.n_len boot_len (pa_cons (pv 2) pa_nil)) (pe_glob (v := .int 6) rfl h_MOST_LETTERS_parts ⟨_, rfl⟩) (nomark _)) (pss_one (ps_never)) pss_nil)
      (pss_cons (ps_if (pt_cmpR (op_gt) (pe_op op_mul (pe_callB call_len_seq (by rfl) T.n_len boot_len (pa_cons (pe_fld (pv 0) rfl) pa_nil)) (pe_callB call_len_seq (by rfl) T.n_len boot_len (pa_cons (pe_fld (pv 1) rfl) pa_nil))) (pe_glob (v := .int 2000) rfl h_MOST_ELEMENTS_parts ⟨_, rfl⟩) (nomark _)) (pss_one (ps_never)) pss_nil)
      (pss_cons (ps_asg (pe_lam3 (tb := tbK K) (q := lamQ ("direct", none)) (fr := ["one", "other"]) (js := [0, 1]) (spg := fun f c' ws => spWalked P w (tbK K) K elP f (spLamPair P w (tbK K) K c' (lamQ ("direct", none)) ws)) rfl rfl T.g_walked Fw.kp bw (rm.mono (by decide)) (hTB _ hin) rfl (Txt.inTb hin) (T.one hin) rfl (free_by (sc := d_direct.scope) (by decide +kernel)) (by decide +kernel) rfl (fun _ => rfl) (fun base' f c' pm ctv cl ws ho hC => ok_walked elP T Fw (lam_pair (tbK K) T ho hC) ⟨_, _, _, _, ho⟩ (fun us hl => match us, hl with | [_, _], _ => rfl)) (pe_tup (pa_cons pe_int (pa_cons pe_int pa_nil))) (pv 2)) (pg_tup rfl (pgs_cons (pg_name (i := 4) sc_d_direct.nd rfl (Or.inl rfl)) (pgs_cons (pg_name (i := 5) sc_d_direct.nd rfl (Or.inl rfl)) pgs_nil))))
      (pss_one (ps_ret (pe_tup (pa_cons (pe_make T.mkr G_init (rm.mono (by decide)) rfl T.g_Monoid b_init .nil pass0 (pa_cons (pv 5) pa_nil)) (pa_cons (pe_callTy call_tuple_of (by rfl) T.n_tuple boot_tuple (pa_cons (pv 4) pa_nil)) pa_nil)))))))))))), ?_⟩
  have hM1' := hM1
  have hM2' := hM2
  obtain ⟨_, dx1, r1, t1, l1, d1, B1, _⟩ := hM1'
  obtain ⟨_, dx2, r2, t2, l2, d2, B2, _⟩ := hM2'
  obtain ⟨rs1, a11, a12⟩ := B1.right
  obtain ⟨rs2, a21, a22⟩ := B2.right
  obtain ⟨row1, g11, g12, _⟩ := G1.form.at (x := 0) G1.form.n1
  obtain ⟨row2, g21, g22, _⟩ := G2.form.at (x := 0) G2.form.n1
  obtain ⟨v1, c11, b1, rfl, c12⟩ := paired_get a12 g11
  obtain ⟨v2, c21, b2, rfl, c22⟩ := paired_get a22 g21
  have k11 := G1.form.k1
  have k22 := G2.form.k2
  refine ⟨_, rfl, m1, dx1, _, rfl, B1.ob, ?_⟩
  refine ⟨_, rfl, m2, dx2, _, rfl, B2.ob, ?_⟩
  -- the letters of the first
  refine ⟨_, rfl, _, _, dx1, _, _, rfl, B1.ob, T.cl, T.no_right, rfl, _, _, _, _, rfl, rfl, SqT.of a11, atI_nat (j := 0) c11, b1, _, rfl, .inr (SqT.of c12), row1.length, by rw [nvs_len], by omega, by omega, ?_⟩
  refine lc_r (P := P) (w := w) (tb := tbK K) (C := CM K) (lo := 0) (n := row1.length) (fun _ i y H => PairTup H y (0, i)) (fun D i y H H' acc hD k r => r.kp hD k) (by omega) (fun _ => ?_) (fun D i H5 acc hi e5 hD hac Qk qk => ?_) (fun D H5 ys hD e5 hy hl5 hr5 => ?_)
  · rfl
  · refine ⟨_, rfl, (by show 2 ≤ sizeLine; decide), fun t ht => qk _ _ (.new ht) ⟨t, rfl, ?_⟩⟩
    rw [upd_same]
    show some (HO.tup [V.int 0, V.int (0 + (i : Int))]) = _
    rw [Int.zero_add] <;> rfl
  · have pD1 : Paired (PairTup H5) ys ((List.range k1).map fun c => (0, c)) := paired_of (by rw [hl5, g12]; simp) fun i y x hy hx => by
      rw [List.getElem?_map] at hx
      obtain ⟨i', hi', rfl⟩ := Option.map_eq_some_iff.mp hx
      have hi2 := (List.getElem?_eq_some_iff.mp hi').1
      simp at hi2
      rw [List.getElem?_range hi2] at hi'
      cases hi'
      exact hr5 i y hy
    -- the letters of the second
    refine ⟨_, rfl, _, rfl, _, _, dx2, _, _, rfl, e5.ins B2.ob, T.cl, T.no_right, rfl, _, _, _, _, rfl, rfl, SqT.of (e5.tup a21), atI_nat (j := 0) c21, b2, _, rfl, .inr (SqT.of (e5.tup c22)), row2.length, by rw [nvs_len], by omega, by omega, ?_⟩
    refine lc_r (P := P) (w := w) (tb := tbK K) (C := CM K) (lo := 0) (n := row2.length) (fun _ i y H => PairTup H y (1, i)) (fun D i y H H' acc hD k r => r.kp hD k) (by omega) (fun _ => ?_) (fun D i H6 acc hi e6 hD hac Qk qk => ?_) (fun D2 H6 zs hD2 e6 hz hl6 hr6 => ?_)
    · rfl
    · refine ⟨_, rfl, (by show 2 ≤ sizeLine; decide), fun t ht => qk _ _ (.new ht) ⟨t, rfl, ?_⟩⟩
      rw [upd_same]
      show some (HO.tup [V.int 1, V.int (0 + (i : Int))]) = _
      rw [Int.zero_add] <;> rfl
    · have pD2 : Paired (PairTup H6) zs ((List.range k2).map fun c => (1, c)) := paired_of (by rw [hl6, g22]; simp) fun i y x hy hx => by
        rw [List.getElem?_map] at hx
        obtain ⟨i', hi', rfl⟩ := Option.map_eq_some_iff.mp hx
        have hi2 := (List.getElem?_eq_some_iff.mp hi').1
        simp at hi2
        rw [List.getElem?_range hi2] at hi'
        cases hi'
        exact hr6 i y hy
      have eA := e5.trans e6
      refine ⟨D, D2, ys, zs, rfl, rfl, e6.lst hy, hz, by rw [hl5, hl6]; exact Nat.le_of_lt (line_of (by omega)), fun L hL => ?_⟩
      have eL := Ext.new (P := P) (w := w) (tb := tbK K) (C := CM K) (o := .lst (ys ++ zs)) hL
      have eB := eA.trans eL
      have pL : Paired (PairTup (upd H6 L (.lst (ys ++ zs)))) (ys ++ zs) (ltsD k1 k2) := paired_app (Paired.mapP pD1 fun _ _ z => (z.ext e6).ext eL) (Paired.mapP pD2 fun _ _ z => z.ext eL)
      have hzl : (ys ++ zs).length = k1 + k2 := by rw [paired_len pL, ltsD_len]
      -- not too many
      refine ⟨_, rfl, L, _, rfl, .inl (SqL.of upd_same), _, _, rfl, rfl, _, rfl, iteF (decide_eq_false (by rw [hzl]; omega)) ?_⟩
      have l1 : rs1.length = n1 := by rw [paired_len a12, G1.form.len]
      have l2 : rs2.length = n2 := by rw [paired_len a22, G2.form.len]
      have n12 := G1.form.n2
      refine ⟨_, rfl, _, _, dx1, _, _, rfl, eB.ins B1.ob, T.cl, T.no_right, rfl, _, _, rfl, .inr (SqT.of (eB.tup a11)), _, rfl, _, _, dx2, _, _, rfl, eB.ins B2.ob, T.cl, T.no_right, rfl, _, _, rfl, .inr (SqT.of (eB.tup a21)), _, _, rfl, rfl, .inl ⟨by omega, by omega⟩, _, _, rfl, rfl, _, rfl, ?_⟩
      refine iteF (decide_eq_false ?_) ?_
      · rw [l1, l2]
        have : ((n1 * n2 : Nat) : Int) ≤ 2000 := by exact_mod_cast hn
        rw [Int.natCast_mul] at this
        omega
      refine ⟨(by show 2 ≤ sizeLine; decide), fun t0 ht0 => ?_⟩
      have e0 := Ext.new (P := P) (w := w) (tb := tbK K) (C := CM K) (o := .tup [.int 0, .int 0]) ht0
      have eC := eB.trans e0
      refine ⟨_, rfl, (eC.ok ok).tab, fun f c' H3 eN few t3 hco => ?_⟩
      have eF := Ext.few (P := P) (w := w) (C := CM K) eN few t3
      have e3 := eC.trans eF
      have hL3 : H3 L = some (.lst (ys ++ zs)) := eN L _ (e0.lst upd_same) (fun ps z => by cases z)
      have pL3 : Paired (PairTup H3) (ys ++ zs) (ltsD k1 k2) := Paired.mapP pL fun _ _ z => (z.ext e0).ext eF
      refine ⟨.ref t0, (0, 0), L, ys ++ zs, nxD AA BB k1 k2, n1 * n2, inD n1 n2, rfl, ⟨t0, rfl, eF.tup upd_same⟩, ⟨G1.form.n1, G2.form.n1⟩, hL3, by rw [hzl]; exact hk, hn, fun x c hx hc => stepD_in G1 G2 hx (ltsD_get G1 G2 (by rw [hzl] at hc; exact hc)), fun l hl h => pairs_le hl h,
        fun H' v x c lv e' hR hx hc Q' k' => ?_, fun H' p fa ra found rows fv e' B hl hG' hp hfa hfv hra nfa => ?_⟩
      · obtain ⟨l, hl, hlr⟩ := paired_get' pL3 hc
        have eT := e3.trans e'
        refine ⟨m1, m2, v, lv, AA, BB, n1, k1, n2, k2, x, l, rfl, rfl, eT.mon ok m1 AA hM1, eT.mon ok m2 BB hM2, G1, G2, hR, hlr.ext e', hx, List.mem_of_getElem? hl, e'.code _ _ hco, fun H'' v' e'' hv' => k' H'' v' e'' ?_⟩
        show PairTup H'' v' (nxD AA BB k1 k2 x c)
        unfold nxD
        rw [List.getD_eq_getElem?_getD, hl]
        exact hv'
      · have eT := e3.trans e'
        rw [hzl] at B
        have hfl := pairs_le B.nd hG'
        have gG := direct_good G1 G2 (by omega) hk hn B hl hfl
        refine ⟨p, _, rfl, SqT.of hp, rfl, _, _, rfl, _, [], rfl, rfl, ?_⟩
        have hraO : TabO H' (.ref ra) rows := by
          obtain ⟨rv, r1, r2⟩ := hra
          refine ⟨rv, ⟨ra, rfl, .inl r1⟩, Paired.mapP r2 fun _ _ z => ?_⟩
          obtain ⟨b, e1, e2⟩ := z
          exact ⟨b, e1, .inl e2⟩
        refine ⟨_, rfl, fun x dx hx hdx ne => make_mon hx hdx ne hraO gG fun H7 e7 hM7 => ?_⟩
        refine ⟨_, rfl, fa, _, rfl, .inl ⟨SqL.of (e7.lst hfa), fun p2 hp2 => ?_⟩⟩
        have e8 := Ext.new (P := P) (w := w) (tb := tbK K) (C := CM K) (o := .tup fv) hp2
        refine ⟨(by show 2 ≤ sizeLine; decide), fun p3 hp3 => ?_⟩
        have e9 := Ext.new (P := P) (w := w) (tb := tbK K) (C := CM K) (o := .tup [.ref x, .ref p2]) hp3
        have ok7 := (eT.trans e7).ok ok
        have e89 := e8.trans e9
        exact q _ p3 x (.ref p2) found rows ((eT.trans e7).trans e89) upd_same (e89.mon ok7 _ _ hM7) B hl gG hfl
end
end K95
set_option Elab.async false
set_option linter.all false
set_option maxRecDepth 100000
set_option maxHeartbeats 4000000
set_option autoImplicit false
/-! list(zip(xs, ys)), two lists of one length -/
namespace K95
open PySem PySem.Spec PyProof.Rows L2
def tListZip (K : PySem.W.Frag) (ta : TA) : TE := fun σ H Q => ta σ H fun vs H1 => ∃ (a b : Addr) (xs ys : List V), vs = [.ref a, .ref b] ∧ SqL K H1 a xs ∧ SqL K H1 b ys ∧ xs.length = ys.length ∧
  ∀ (H' : Hp) (p : Addr) (ts : List Addr), (∀ c o, H1 c = some o → H' c = some o) → H1 p = none → (∀ t ∈ ts, H1 t = none) → p ∉ ts → (∀ c, c ≠ p → c ∉ ts → H' c = H1 c) → H' p = some (.lst (ts.map V.ref)) → ts.length = xs.length →
    (∀ (i : Nat) t x y, ts[i]? = some t → xs[i]? = some x → ys[i]? = some y → H' t = some (.tup [x, y])) → Q (.ref p) H'
theorem vals_refs : ∀ ts : List Addr, Vals (ts.map V.ref) (ts.map Value.ref)
  | [] => .nil
  | _ :: r => .cons rfl (vals_refs r)
/-- many new objects, all beyond what stood -/
theorem Inv.laidM {X : Cx} {pins : List (Addr × Obj)} {σ : List (Option V)} {H H' : Hp} {s : Shared} {h' : Heap} (I : L2.Inv X pins σ H s) (k : ∀ b u, s.heap.get? b = some u → h'.get? b = some u) (old : ∀ b, b < s.heap.objs.size → H' b = H b)
    (new : ∀ b o, H' b = some o → H b = some o ∨ ObjOk X.prog X.w H' h' b o) : L2.Inv X pins σ H' { s with heap := h' } := by
  have keep : ∀ b o, H b = some o → H' b = some o := fun b o e => by
    rw [old b (I.hok b o e).lt]
    exact e
  refine I.un (t' := s.toks) ⟨fun b u q _ _ _ => k b u q, fun b u q _ _ _ => ⟨u.slots, k b u q⟩, fun b u q n _ => ?_, fun b u q _ => ⟨u, k b u q⟩, fun b xs q => keep b _ q, fun b u xs q => keep b _ q, fun b ps q => ⟨#[], by rw [keep b _ q]; simp⟩⟩ fun b o e => ?_
  · rw [old b (Heap.lt_size q)]
    exact n
  · rcases new b o e with e1 | x
    · exact (I.hok b o e1).stay (fun c v _ q => k c v q) (fun c q => keep c _ q) fun c xs q => keep c _ q
    · exact x
theorem pe_listZip {X : Cx} {e e2 : Expr} {ta : TA} {p zp pos zpos : Pos} (hc : X.calm = true) (hg : Gl X "list") (hm : X.mg "list" = none) (hgz : Gl X "zip") (hmz : X.mg "zip" = none) (ha : PA X [e, e2] ta)
    (hs : starEach [e, e2] X.env = (false, eval e X.env) :: starEach [e2] X.env := by rfl) (hpl : (backTo zpos (starEach [e2] X.env)).any (·.1) = false := by rfl)
    (hs2 : starEach [.Call (.Name "zip" zp) [e, e2] [] zpos] X.env = (false, eval (.Call (.Name "zip" zp) [e, e2] [] zpos) X.env) :: starEach [] X.env := by rfl) :
    PE X (.Call (.Name "list" p) [.Call (.Name "zip" zp) [e, e2] [] zpos] [] pos) (tListZip X.K ta) := by
  refine ⟨fun pins s σ H Q I h => ?_⟩
  refine Call_ (ld_blt I hg hm boot_list ?_)
  refine PyProof.Rows.callWith_type1 (PyProof.Rows.args_cons ?_ hs2) hs2 rfl
  refine Call_ (ld_blt I hgz hmz PyProof.Rows.boot_zip (PyProof.Rows.callWith_type1 (thn (ha.run zpos pins s σ H _ I h) fun us s1 ⟨vs, H1, I1, r1, q1⟩ => ?_) hs hpl))
  obtain ⟨a, b, xs, ys, ex, hqx, hqy, hlen, q1⟩ := q1
  subst ex
  cases r1 with
  | cons r rr =>
    cases rr with
    | cons r' rr =>
      cases rr
      cases r
      cases r'
      obtain ⟨its, rv, p1, hz1⟩ := I1.list hqx
      obtain ⟨its2, rv2, p2, hz2⟩ := I1.list hqy
      refine call_zip_2 p1.isList p2.isList fun h' hz hTI hTO h1 h2 hsz hk => PyProof.Rows.args_nil ?_
      have l1 : its.toArray.size = xs.length := by rw [List.size_toArray, ← rv.length]
      have l2 : its2.toArray.size = ys.length := by rw [List.size_toArray, ← rv2.length]
      have D := PySem.W.ktu_apart s1.heap.objs.size a b p1.lt p2.lt
      have Z : ZS (s1.heap.objs.size + 4) (s1.heap.objs.size + 2) (s1.heap.objs.size + 3) s1.heap.objs.size (s1.heap.objs.size + 1) a b its.toArray its2.toArray h' 0 [] := by
        refine ⟨.inl ⟨rfl, hz⟩, hTI, ⟨_, _, hTO⟩, h1, h2, ?_, ?_, rfl, fun j t ht => by simp at ht, .nil, fun t ht => by cases ht⟩
        · exact p1.isList.at fun o e => hk _ o e
        · exact p2.isList.at fun o e => hk _ o e
      refine call_list_zip (s := { s1 with heap := h' }) (I1.ok.hd hc) D (by rw [l1, l2, hlen]) (by rw [l1]; exact hz1) Z fun h2' ts ZE => ?_
      have hsz' : h'.objs.size = s1.heap.objs.size + 5 := hsz
      obtain ⟨g1, g2, g3, g4, g5, ⟨c, g6⟩, g7⟩ := ZE
      have g3 : s1.heap.objs.size + 5 ∉ ts := by rw [← hsz']; exact g3
      have g6 : h2'.get? (s1.heap.objs.size + 5) = some { cls := .type "list", dict := none, data := .seq (ts.map Value.ref).toArray c, slots := #[] } := by rw [← hsz']; exact g6
      have hge : ∀ t ∈ ts, s1.heap.objs.size + 5 < t := fun t ht => by
        have h := g4 t ht
        have e : (h'.push { cls := .type "list", data := .seq #[] }).objs.size = h'.objs.size + 1 := Heap.size_push ..
        have h : (h'.push { cls := .type "list", data := .seq #[] }).objs.size ≤ t := h
        rw [e, hsz'] at h
        exact h
      have kept : ∀ b u, s1.heap.get? b = some u → h2'.get? b = some u := fun b u e => by
        have hlt := Heap.lt_size e
        refine g7 b u (fun q => ?_) (Heap.get?_push_of_some _ (hk b u e))
        have hb : s1.heap.objs.size ≤ b := by
          simp at q
          rcases q with q | q | q | q | q
          · have q : b = h'.objs.size := q
            rw [q, hsz']
            exact Nat.le_add_right _ _
          · rw [q]; exact Nat.le_add_right _ _
          · rw [q]; exact Nat.le_add_right _ _
          · rw [q]; exact Nat.le_refl _
          · rw [q]; exact Nat.le_add_right _ _
        exact absurd hlt (Nat.not_lt.mpr hb)
      have tup : ∀ (i : Nat) t, ts[i]? = some t → ∃ x y u v, xs[i]? = some x ∧ ys[i]? = some y ∧ RelV x u ∧ RelV y v ∧ IsPair h2' t u v := fun i t ht => by
        obtain ⟨u, v, e1, e2, e3⟩ := g5 i t ht
        have hi : i < xs.length := by rw [← l1, ← g1]; exact (List.getElem?_eq_some_iff.mp ht).1
        have hi2 : i < ys.length := by omega
        obtain ⟨u', hu, ru⟩ := rv.get (List.getElem?_eq_getElem hi)
        obtain ⟨v', hv, rv'⟩ := rv2.get (List.getElem?_eq_getElem hi2)
        have e1' : its[i]? = some u := by simpa using e1
        have e2' : its2[i]? = some v := by simpa using e2
        rw [hu] at e1'
        rw [hv] at e2'
        cases e1'
        cases e2'
        exact ⟨_, _, _, _, List.getElem?_eq_getElem hi, List.getElem?_eq_getElem hi2, ru, rv', e3⟩
      -- the heap that is told
      let H' : Hp := fun b => if b = s1.heap.objs.size + 5 then some (.lst (ts.map V.ref)) else if b ∈ ts then (match xs[ts.idxOf b]?, ys[ts.idxOf b]? with
        | some x, some y => some (.tup [x, y])
        | _, _ => H1 b) else H1 b
      have hS : H' (s1.heap.objs.size + 5) = some (.lst (ts.map V.ref)) := if_pos rfl
      have hoth : ∀ b, b ≠ s1.heap.objs.size + 5 → b ∉ ts → H' b = H1 b := fun b n1 n2 => by
        show (if b = s1.heap.objs.size + 5 then _ else _) = _
        rw [if_neg n1, if_neg n2]
      have hts : ∀ (i : Nat) t x y, ts[i]? = some t → xs[i]? = some x → ys[i]? = some y → H' t = some (.tup [x, y]) := fun i t x y ht hx hy => by
        have hm := List.mem_of_getElem? ht
        have hi : ts.idxOf t = i := by
          obtain ⟨hi, e⟩ := List.getElem?_eq_some_iff.mp ht
          have h2 := List.getElem_idxOf (List.idxOf_lt_length_iff.mpr hm)
          exact (List.getElem_inj g2).mp (h2.trans e.symm)
        show (if t = s1.heap.objs.size + 5 then _ else _) = _
        rw [if_neg (Nat.ne_of_gt (hge t hm)), if_pos hm, hi, hx, hy]
      have old : ∀ b, b < s1.heap.objs.size → H' b = H1 b := fun b hb => hoth b (Nat.ne_of_lt (Nat.lt_of_lt_of_le hb (Nat.le_add_right _ _))) fun q => absurd (hge b q) (Nat.not_lt.mpr (Nat.le_of_lt (Nat.lt_of_lt_of_le hb (Nat.le_add_right _ _))))
      have hlt : ts.length ≤ sizeLine := by rw [g1, l1]; exact hz1
      have J : L2.Inv X pins σ H' { s1 with heap := h2' } := Inv.laidM I1 kept old fun b o e => by
        by_cases e1 : b = s1.heap.objs.size + 5
        · subst e1
          rw [hS] at e
          cases e
          exact .inr ⟨by rw [List.length_map]; exact hlt, ts.map Value.ref, c, vals_refs ts, g6⟩
        · by_cases e2 : b ∈ ts
          · obtain ⟨i, hi⟩ := List.mem_iff_getElem?.mp e2
            obtain ⟨x, y, u, v, a1, a2, a3, a4, a5⟩ := tup i b hi
            rw [hts i b x y hi a1 a2] at e
            cases e
            exact .inr ⟨by show 2 ≤ sizeLine; decide, [u, v], .cons a3 (.cons a4 .nil), ⟨_, a5, rfl, _, rfl⟩⟩
          · rw [hoth b e1 e2] at e
            exact .inl e
      have ge : ∀ b o, H1 b = some o → b < s1.heap.objs.size := fun b o e => (I1.hok b o e).lt
      refine ⟨.ref (s1.heap.objs.size + 5), H', J, by show Value.ref h'.objs.size = _; rw [hsz'], ?_⟩
      refine q1 H' (s1.heap.objs.size + 5) ts (fun b o e => by rw [old b (ge b o e)]; exact e) (I1.hok.fresh (Nat.le_add_right _ _)) (fun t ht => I1.hok.fresh (Nat.le_of_lt (Nat.lt_of_le_of_lt (Nat.le_add_right _ _) (hge t ht)))) g3 hoth hS (by rw [g1, l1]) hts
end K95
set_option Elab.async false
set_option linter.all false
set_option maxRecDepth 100000
set_option maxHeartbeats 4000000
set_option autoImplicit false
/-! len(set(xs)), xs a list or a tuple of ints, whatever its repeats -/
namespace K95
open PySem PySem.Spec PyProof.Rows L2
theorem met_mem (val : Nat → Int) (n : Nat) (k : Int) : k ∈ firstMet val n ↔ ∃ i, i < n ∧ val i = k := by
  have h := firstMet_any val n k
  have e1 : ((firstMet val n).any (· == k)) = true ↔ k ∈ firstMet val n := by
    rw [List.any_eq_true]
    constructor
    · rintro ⟨x, hx, e⟩
      rw [← eq_of_beq e]
      exact hx
    · intro hx
      exact ⟨k, hx, by simp⟩
  have e2 : (((List.range n).map val).any (· == k)) = true ↔ ∃ i, i < n ∧ val i = k := by
    rw [List.any_eq_true]
    constructor
    · rintro ⟨x, hx, e⟩
      obtain ⟨i, hi, rfl⟩ := List.mem_map.mp hx
      exact ⟨i, List.mem_range.mp hi, eq_of_beq e⟩
    · rintro ⟨i, hi, rfl⟩
      exact ⟨val i, List.mem_map.mpr ⟨i, List.mem_range.mpr hi, rfl⟩, by simp⟩
  rw [← e1, h, e2]
theorem met_nodup (val : Nat → Int) : ∀ n, (firstMet val n).Nodup
  | 0 => by rw [firstMet_zero]; exact .nil
  | n + 1 => by
    rw [firstMet_succ]
    have ih := met_nodup val n
    unfold step_dedup
    split
    · exact ih
    · rename_i h
      rw [List.nodup_append]
      refine ⟨ih, by simp, fun a ha b hb e => ?_⟩
      rw [List.mem_singleton.mp hb] at e
      subst e
      exact h (List.any_eq_true.mpr ⟨_, ha, by simp⟩)
def tLenSet' (K : PySem.W.Frag) (ta : TE) : TE := fun σ H Q => ta σ H fun x H1 => ∃ (l : Addr) (ns : List Int), x = .ref l ∧ (SqL K H1 l (ns.map V.int) ∨ SqT K H1 l (ns.map V.int)) ∧ ns.length ≤ 4000 ∧ ∀ L : List Int, L.Nodup → (∀ k, k ∈ L ↔ k ∈ ns) → Q (.int (L.length : Nat)) H1
theorem pe_lenSet' {X : Cx} {a : Expr} {ta : TE} {p p2 q pos : Pos} (hg : Gl X "len") (hm : X.mg "len" = none) (hg2 : Gl X "set") (hm2 : X.mg "set" = none) (ha : PE X a ta) (hc : X.calm = true := by rfl)
    (na : starEach [a] X.env = (false, eval a X.env) :: starEach [] X.env := by rfl) : PE X (.Call (.Name "len" p) [.Call (.Name "set" p2) [a] [] q] [] pos) (tLenSet' X.K ta) := by
  refine ⟨fun pins s σ H Q I h => ?_⟩
  refine Call_ (ld_blt I hg hm boot_len ?_)
  refine PyProof.Rows.callWith_builtin1 (PyProof.Rows.args_cons ?_ rfl) rfl rfl
  refine Call_ (ld_blt I hg2 hm2 boot_set ?_)
  refine PyProof.Rows.callWith_type1 (PyProof.Rows.args_cons (thn (ha.run pins s σ H _ I h) fun v s1 ⟨x, H1, I1, r1, q1⟩ => PyProof.Rows.args_nil ?_) na) na rfl
  obtain ⟨l, ns, rfl, hq, hl, q1⟩ := q1
  cases r1
  rcases hq with hq | hq
  · obtain ⟨its, r, pl, hz⟩ := I1.list hq
    have hlen : its.toArray.size = ns.length := by rw [List.size_toArray, ← r.length, List.length_map]
    refine call_set_list (I1.ok.hd hc) pl.isList (by simpa using RZ.intsAre_vals r) (by rw [hlen]; unfold scanBound; omega) fun h' tk hS hk => ?_
    refine PyProof.Rows.args_nil ?_
    rw [hlen] at hS
    obtain ⟨o, es, ep, t, ho, hex, hd, _, _, _, hf, hn⟩ := hS
    have hle := firstMet_length_le (fun i => ns.getD i 0) ns.length
    have I2 : L2.Inv X pins σ H1 { s1 with heap := h', toks := tk } := I1.kept fun b o e => hk b o (Heap.lt_size e) e
    have q2 := q1 (firstMet (fun i => ns.getD i 0) ns.length) (met_nodup _ _) fun k => by
      rw [met_mem]
      constructor
      · rintro ⟨i, hi, rfl⟩
        rw [List.getD_eq_getElem?_getD, List.getElem?_eq_getElem hi]
        exact List.getElem_mem hi
      · intro hk
        obtain ⟨i, hi⟩ := List.mem_iff_getElem?.mp hk
        exact ⟨i, (List.getElem?_eq_some_iff.mp hi).1, by rw [List.getD_eq_getElem?_getD, hi] <;> rfl⟩
    exact call_len_set ho hex hd hf (by rw [hn]; omega) ⟨.int ((firstMet (fun i => ns.getD i 0) ns.length).length : Nat), H1, I2.tok _, ⟨_, by rw [hn]⟩, q2⟩
  · obtain ⟨its, r, pl, hz⟩ := I1.tuple hq
    refine call_set_tupI ns (I1.ok.hd hc) (show s1.heap.IsTuple l its.toArray from pl) (by simpa using RZ.intsAre_vals r) (by unfold scanBound; omega) fun h' tk c hS hcn hk => ?_
    refine PyProof.Rows.args_nil ?_
    obtain ⟨o, es, ep, t, ho, hex, hd, _, hnd, hmem, _, hf, hn, _⟩ := hS
    have I2 : L2.Inv X pins σ H1 { s1 with heap := h', toks := tk } := I1.kept fun b o e => hk b o e
    have q2 := q1 (es.toList.map keyOf) hnd fun k => by
      rw [← hmem k]
      simp
    have el : (es.toList.map keyOf).length = es.size := by simp
    exact call_len_set ho hex hd hf (by rw [hn]; omega) ⟨.int ((es.toList.map keyOf).length : Nat), H1, I2.tok _, ⟨_, by rw [el]⟩, q2⟩
end K95
set_option Elab.async false
set_option linter.all false
set_option maxRecDepth 100000
set_option maxHeartbeats 4000000
set_option autoImplicit false
namespace K95
open PySem PySem.Spec PyProof.Rows L2
/-- a dict of numbers to numbers -/
def knV (kn : List (Nat × Nat)) : List (Nat × V) := kn.map fun p => (p.1, nv p.2)
theorem knV_some : ∀ {kn : List (Nat × Nat)} {x a : Nat}, (kn.map (·.1)).Nodup → (x, a) ∈ kn → valV (knV kn) x = some (nv a)
  | p :: r, x, a, hd, h => by
    rw [List.map_cons, List.nodup_cons] at hd
    show valV ((p.1, nv p.2) :: knV r) x = _
    rcases List.mem_cons.mp h with e | h
    · rw [← e, valV_pos rfl]
    · have hne : p.1 ≠ x := fun z => hd.1 (List.mem_map.mpr ⟨_, h, z.symm⟩)
      rw [valV_neg hne]
      exact knV_some hd.2 h
theorem knV_none : ∀ {kn : List (Nat × Nat)} {x : Nat}, (∀ b, (x, b) ∉ kn) → valV (knV kn) x = none
  | [], _, _ => rfl
  | p :: r, x, h => by
    have hne : p.1 ≠ x := fun z => h p.2 (by rw [← z]; simp)
    show valV ((p.1, nv p.2) :: knV r) x = _
    rw [valV_neg hne]
    exact knV_none fun b hb => h b (List.mem_cons_of_mem _ hb)
theorem knV_snoc (kn : List (Nat × Nat)) (p : Nat × Nat) : knV (kn ++ [p]) = knV kn ++ [(p.1, nv p.2)] := by
  unfold knV
  rw [List.map_append] <;> rfl
theorem nvs_snoc (l : List Nat) (x : Nat) : nvs l ++ [nv x] = nvs (l ++ [x]) := by
  unfold nvs
  rw [List.map_append] <;> rfl
theorem nvs_dropLast (l : List Nat) (x : Nat) : (nvs (l ++ [x])).dropLast = nvs l := by
  rw [← nvs_snoc]
  simp
theorem nvs_last (l : List Nat) (x : Nat) : (nvs (l ++ [x]))[(nvs (l ++ [x])).length - 1]? = some (nv x) := by
  rw [← nvs_snoc]
  simp
end K95
set_option Elab.async false
set_option linter.all false
set_option maxRecDepth 100000
set_option maxHeartbeats 4000000
set_option autoImplicit false
namespace K95
open PySem PySem.Spec PyProof.Rows L2
section
variable {P : Program} {w : World} {K : PySem.W.Frag} {mg : Str → Option Value} {base : Heap} {tb : Tbs}
def spAllRows (P : Program) (w : World) (tb : Tbs) (K : PySem.W.Frag) : Sp := fun vs H Q _ => ∃ n k : Nat, vs = [nv n, nv k] ∧ 1 ≤ n ∧ n ^ k ≤ 10000 ∧ n ≤ 10000 ∧ k ≤ 10000 ∧ ∀ H' p vs', Ext P w tb (CM K) H H' → H' p = some (.lst vs') → Paired (IntTup H') vs' (rowsL n k) → Q (.ref p) H'
theorem sc_d_all_rows : FnScope ["many", "length", "found", "turn", "row", "number"] ["many", "length"] d_all_rows.scope := ⟨rfl, rfl, rfl, by decide +kernel, rfl, by decide +kernel, by decide +kernel⟩
theorem go_all_rows (T : Txt K mg) : Go P w K mg base "all_rows" ["many", "length"] 1 (spAllRows P w tb K) := by
  obtain ⟨fd, F⟩ := T.fn 34
  refine ⟨_, fd, T.g_all_rows, F.kp, F.bindsN (fun _ _ _ _ _ _ us hl => match us, hl with | [_, _], _ => rfl), okN F sc_d_all_rows (fun vs H Q E h => by
    obtain ⟨_, _, rfl, _⟩ := h
    rfl) (fun cdv A outer s H vs Q E rm h => ?_)⟩
  obtain ⟨n, k, rfl, n1, hb, hn, hk, q⟩ := h
  refine ⟨_, (pss_cons (ps_set (i := 2) sc_d_all_rows.nd rfl (Or.inl rfl) (pe_lst (pa_cons (pe_tup pa_nil) pa_nil)))
      (pss_cons (ps_for PassesOwn.never rfl (pi_range1 rfl T.n_range (pa_cons (pv 1) pa_nil)) (pg_name (i := 3) sc_d_all_rows.nd rfl (Or.inl rfl))
      (pss_one (ps_setLc2 (i := 2) (own := [("row", 4), ("number", 5)]) (vs1 := [5]) (g := gName 4) (g1 := gName 5) rfl sc_d_all_rows.nd rfl rfl (sw_true rfl rfl rfl (by decide +kernel)) (pi_list (pv 2)) (blkOk_by (N := ["many", "length", "found", "turn", "row", "number"]) (sc := d_all_rows.scope) (by decide +kernel)) (by decide) (fun _ _ _ _ _ => (pg_name (i := 4) sc_d_all_rows.nd rfl (Or.inl rfl))) (fun _ _ _ _ _ => pts_nil) (fun _ _ _ _ _ => pi_c (pi_range1 rfl T.n_range (pa_cons (pv 0) pa_nil))) (fun _ _ _ _ _ => (pg_name (i := 5) sc_d_all_rows.nd rfl (Or.inl rfl))) (fun _ _ _ _ _ => pts_nil) (fun _ _ _ _ _ => pe_c (pe_op op_catA (pv 4) (pe_tup (pa_cons (pv 5) pa_nil)))))))
      (pss_one (ps_ret (pv 2))))), ?_⟩
  refine ⟨(by show 0 ≤ sizeLine; decide), fun t0 ht0 => ?_⟩
  have e0 := Ext.new (P := P) (w := w) (tb := tb) (C := CM K) (o := .tup []) ht0
  refine ⟨(by show 1 ≤ sizeLine; decide), fun p0 hp0 => ?_⟩
  have e1 := e0.trans (Ext.new (P := P) (w := w) (tb := tb) (C := CM K) (o := .lst [.ref t0]) hp0)
  refine ⟨_, rfl, (k : Int), rfl, by omega, by omega, for_it walk_range (fun i σ H' => ∃ p vs' y3 , σ = [some (nv n), some (nv k), some (.ref p), y3, none, none] ∧ Ext P w tb (CM K) H H' ∧ H' p = some (.lst vs') ∧ Paired (IntTup H') vs' (rowsL n i)) ⟨p0, [.ref t0], none, rfl, e1, upd_same, .cons ⟨t0, rfl, (Ext.new (P := P) (w := w) (tb := tb) (C := CM K) (o := .lst [.ref t0]) hp0).tup upd_same⟩ .nil⟩ (fun _ _ _ _ _ => trivial)
    (fun i x σ H' H6 hi ⟨p, vs', y3, es, e, hp, hpd⟩ hy => ?_) fun σ H' ⟨p, vs', y3, es, e, hp, hpd⟩ => ?_⟩
  · obtain ⟨rfl, rfl⟩ := hy
    subst es
    have hi' : i < k := hi
    have hlen : vs'.length = n ^ i := by rw [paired_len hpd, rowsL_len]
    have hle : n ^ (i + 1) ≤ n ^ k := Nat.pow_le_pow_right n1 hi'
    have hle2 : n ^ i ≤ n ^ k := Nat.pow_le_pow_right n1 (Nat.le_of_lt hi')
    refine ⟨_, rfl, p, rfl, ⟨_, SqL.of hp⟩, fun D hD => ?_⟩
    have eD := Ext.new (P := P) (w := w) (tb := tb) (C := CM K) (o := .lst []) hD
    have nD : Nw H6 D := .of hD
    refine ⟨fun a m H' => m = vs'.length - a ∧ a ≤ vs'.length ∧ ∃ zs, Ext P w tb (CM K) H6 H' ∧ H' D = some (.lst zs) ∧ Paired (IntTup H') zs (((rowsL n i).take a).flatMap fun r => (List.range n).map fun j => r ++ [j]), ⟨vs'.length, by simp, by omega, [], eD, upd_same, .nil⟩, fun a m H' hW => ?_⟩
    obtain ⟨rfl, hal, zs, ez, hz, pz⟩ := hW
    by_cases ha : a < vs'.length
    · obtain ⟨r, gr, vr, evr, hrr⟩ := paired_get' hpd (List.getElem?_eq_getElem ha)
      have gx : vs'[a]? = some (.ref vr) := by rw [← evr]; exact List.getElem?_eq_getElem ha
      refine .inr ⟨⟨_, _, SqL.of (ez.lst hp), gx⟩, fun H'' => ∃ zs, Ext P w tb (CM K) H6 H'' ∧ H'' D = some (.lst zs) ∧ Paired (IntTup H'') zs (((rowsL n i).take (a + 1)).flatMap fun r => (List.range n).map fun j => r ++ [j]), fun H'' h => ⟨vs'.length - (a + 1), by omega, rfl, by omega, h⟩, fun x H'' hy => ?_⟩
      obtain ⟨rfl, hxx⟩ := hy
      have ex := hxx _ (SqL.of (ez.lst hp))
      rw [gx] at ex
      cases ex
      refine ⟨rfl, _, rfl, (n : Int), rfl, by omega, by omega, ?_⟩
      refine ⟨fun j m H' => m = n - j ∧ j ≤ n ∧ ∃ zs', Ext P w tb (CM K) H6 H' ∧ H' D = some (.lst zs') ∧ Paired (IntTup H') zs' ((((rowsL n i).take a).flatMap fun r => (List.range n).map fun j => r ++ [j]) ++ (List.range j).map fun j => r ++ [j]), ⟨n, by simp, by omega, zs, ez, hz, by simpa using pz⟩, fun j m H' hW => ?_⟩
      obtain ⟨rfl, hjl, zs', ez', hz', pz'⟩ := hW
      have hzl : zs'.length ≤ n ^ i * n + n := by
        rw [paired_len pz', List.length_append, flat_len (n := n) (fun x _ => by simp), List.length_map, List.length_range]
        have h1 : ((rowsL n i).take a).length ≤ n ^ i := by rw [List.length_take, rowsL_len]; exact Nat.min_le_right _ _
        have := Nat.mul_le_mul_right n h1
        omega
      have hpow : n ^ i * n ≤ 10000 := by rw [← Nat.pow_succ]; exact Nat.le_trans hle hb
      by_cases hj : j < n
      · refine .inr ⟨hj, fun H'' => ∃ zs', Ext P w tb (CM K) H6 H'' ∧ H'' D = some (.lst zs') ∧ Paired (IntTup H'') zs' ((((rowsL n i).take a).flatMap fun r => (List.range n).map fun j => r ++ [j]) ++ (List.range (j + 1)).map fun j => r ++ [j]), fun H'' h => ⟨n - (j + 1), by omega, rfl, by omega, h⟩, fun x H'' hy => ?_⟩
        obtain ⟨rfl, rfl⟩ := hy
        have hr2 := (ez'.tup hrr)
        refine ⟨rfl, _, rfl, _, rfl, (by show 1 ≤ sizeLine; decide), fun t ht => ?_⟩
        have et := Ext.new (P := P) (w := w) (tb := tb) (C := CM K) (o := .tup [.int (0 + (j : Int))]) ht
        have hrlen : r.length ≤ 10000 := by
          have := (rowsL_mem.mp (List.mem_of_getElem? gr)).1
          omega
        have fin : ∀ H7 u, Ext P w tb (CM K) H'' H7 → IntTup H7 u (r ++ [j]) → ∃ acc, H7 D = some (.lst acc) ∧ acc.length < sizeLine ∧ ∃ zs', Ext P w tb (CM K) H6 (upd H7 D (.lst (acc ++ [u]))) ∧ (upd H7 D (.lst (acc ++ [u]))) D = some (.lst zs') ∧ Paired (IntTup (upd H7 D (.lst (acc ++ [u])))) zs' ((((rowsL n i).take a).flatMap fun r => (List.range n).map fun j => r ++ [j]) ++ (List.range (j + 1)).map fun j => r ++ [j]) := fun H7 u e7 hu => by
          have hD7 := e7.lst hz'
          refine ⟨zs', hD7, line_of (by omega), zs' ++ [u], (ez'.trans e7).mut nD hD7 rfl, upd_same, ?_⟩
          rw [List.range_succ, List.map_append, ← List.append_assoc]
          exact paired_app (Paired.mapP pz' fun _ _ z => (z.ext e7).kp hD7 Kp.upd) (.cons (hu.kp hD7 Kp.upd) .nil)
        refine ⟨vr, t, _, _, rfl, rfl, SqT.of (et.tup hr2), SqT.of upd_same, by rw [nvs_len]; exact Nat.le_of_lt (line_of (by simp; omega)), fun h0 => ?_, (fun _ h1 => absurd h1 (by simp)), fun h0 _ p2 hp2 => ?_⟩
        · have hr0 : r = [] := by
            unfold nvs at h0
            exact List.map_eq_nil_iff.mp h0
          refine fin _ _ et ⟨t, rfl, ?_⟩
          rw [upd_same, hr0]
          show some (HO.tup [V.int (0 + (j : Int))]) = _
          rw [Int.zero_add] <;> rfl
        · refine fin _ _ (et.trans (Ext.new hp2)) ⟨p2, rfl, ?_⟩
          rw [upd_same]
          unfold nvs
          rw [List.map_append]
          show some (HO.tup (_ ++ [V.int (0 + (j : Int))])) = _
          rw [Int.zero_add] <;> rfl
      · have ej : j = n := by omega
        subst ej
        refine .inl ⟨Nat.le_refl _, zs', ez', hz', ?_⟩
        rw [flat_take gr]
        exact pz'
    · have ea : a = vs'.length := by omega
      subst ea
      refine .inl ⟨⟨_, SqL.of (ez.lst hp), Nat.le_refl _⟩, ?_⟩
      refine ⟨D, zs, some (.int (0 + (i : Int))), rfl, e.trans ez, hz, ?_⟩
      · rw [paired_len hpd, List.take_length] at pz
        exact pz
  · subst es
    exact ⟨_, rfl, q H' p vs' e hp hpd⟩
end
end K95
set_option Elab.async false
set_option linter.all false
set_option maxRecDepth 100000
set_option maxHeartbeats 4000000
set_option autoImplicit false
namespace K95
open PySem PySem.Spec PyProof.Rows L2
section
variable {P : Program} {w : World} {K : PySem.W.Frag} {mg : Str → Option Value} {base : Heap} {tb : Tbs}
/-- the walk's heap: what is known, what is left -/
structure LdH (P : Program) (w : World) (tb : Tbs) (C : Addr) (H0 H : Hp) (ka ra : Addr) (kn : List (Nat × Nat)) (rest : List Nat) : Prop where
  e : Ext P w tb C H0 H
  k : H ka = some (elN.dic (knV kn))
  r : H ra = some (.lst (nvs rest))
  nk : Nw H0 ka
  nr : Nw H0 ra
theorem LdH.ne {C : Addr} {H0 H : Hp} {ka ra : Addr} {kn : List (Nat × Nat)} {rest : List Nat} (h : LdH P w tb C H0 H ka ra kn rest) : ra ≠ ka := ne_of h.r h.k fun z => elN.nl _ _ z.symm
theorem LdH.ext {C : Addr} {H0 H H' : Hp} {ka ra : Addr} {kn : List (Nat × Nat)} {rest : List Nat} (h : LdH P w tb C H0 H ka ra kn rest) (e : Ext P w tb C H H') : LdH P w tb C H0 H' ka ra kn rest :=
  ⟨h.e.trans e, e.keep _ _ h.k (mutO_plain (elN.mu _)), e.lst h.r, h.nk, h.nr⟩
theorem LdH.pop {C : Addr} {H0 H : Hp} {ka ra : Addr} {kn : List (Nat × Nat)} {rest : List Nat} {y : Nat} (h : LdH P w tb C H0 H ka ra kn (rest ++ [y])) : LdH P w tb C H0 (upd H ra (.lst (nvs rest))) ka ra kn rest :=
  ⟨h.e.mut h.nr h.r rfl, by rw [upd_ne h.ne.symm]; exact h.k, upd_same, h.nk, h.nr⟩
theorem LdH.add {C : Addr} {H0 H : Hp} {ka ra : Addr} {kn : List (Nat × Nat)} {rest : List Nat} {x a : Nat} (h : LdH P w tb C H0 H ka ra kn rest) : (upd H ka (elN.dic (knV kn ++ [(x, nv a)]))) ra = some (.lst (nvs rest)) ∧ LdH P w tb C H0 (upd (upd H ka (elN.dic (knV kn ++ [(x, nv a)]))) ra (.lst (nvs rest ++ [nv x]))) ka ra (kn ++ [(x, a)]) (rest ++ [x]) := by
  have h1 : (upd H ka (elN.dic (knV kn ++ [(x, nv a)]))) ra = some (.lst (nvs rest)) := by rw [upd_ne h.ne]; exact h.r
  have e1 := h.e.mut (o := elN.dic (knV kn ++ [(x, nv a)])) h.nk h.k (elN.mu _) (fun _ _ _ _ _ => elN.ni _ _ _ _)
  refine ⟨h1, e1.mut h.nr h1 rfl, ?_, ?_, h.nk, h.nr⟩
  · rw [upd_ne h.ne.symm, upd_same, knV_snoc]
  · rw [upd_same, nvs_snoc]
def spIsWellLed (P : Program) (w : World) (tb : Tbs) (K : PySem.W.Frag) : Sp := fun vs H Q _ => ∃ (m1 m2 : Addr) (v : V) (A B : Tab) (n1 k1 n2 k2 : Nat) (nums : List Nat), vs = [.ref m1, .ref m2, v] ∧ Okk tb (CM K) H ∧ MonAt P w (CM K) H m1 A ∧ MonAt P w (CM K) H m2 B ∧ Good A n1 k1 ∧ Good B n2 k2 ∧ IntTup H v nums ∧ nums.length = k1 ∧ (∀ x ∈ nums, x < n2) ∧
  ∀ H', Ext P w tb (CM K) H H' → Q (.bl (ledB A B nums)) H'
theorem sc_d_is_well_led : FnScope ["one", "other", "numbers", "known", "rest", "number", "letter", "step", "later", "image"] ["one", "other", "numbers"] d_is_well_led.scope := ⟨rfl, rfl, rfl, by decide +kernel, rfl, by decide +kernel, by decide +kernel⟩
theorem go_is_well_led (T : Txt K mg) : Go P w K mg base "is_well_led" ["one", "other", "numbers"] 5 (spIsWellLed P w tb K) := by
  obtain ⟨fd, F⟩ := T.fn 39
  obtain ⟨fd_times, b_times, G_times⟩ := go_times (P := P) (w := w) (base := base) (tb := tb) T
  refine ⟨_, fd, T.g_is_well_led, F.kp, F.bindsN (fun _ _ _ _ _ _ us hl => match us, hl with | [_, _, _], _ => rfl), okN F sc_d_is_well_led (fun vs H Q E h => by
    obtain ⟨_, _, _, _, _, _, _, _, _, _, rfl, _⟩ := h
    rfl) (fun cdv A outer s H vs Q E rm h => ?_)⟩
  obtain ⟨m1, m2, v, AA, BB, n1, k1, n2, k2, nums, rfl, ok, hM1, hM2, G1, G2, hv, hnl, hnn, q⟩ := h
  obtain ⟨va, rfl, hva⟩ := hv
  have hM1' := hM1
  have hM2' := hM2
  obtain ⟨_, dx1, r1, t1, l1, d1, B1, _⟩ := hM1'
  obtain ⟨_, dx2, r2, t2, l2, d2, B2, _⟩ := hM2'
  obtain ⟨rs1, a11, a12⟩ := B1.right
  have z1 := G1.form.n1
  have z2 := G2.form.n1
  have zk := G1.form.k2
  have zn := G2.form.n2
  refine ⟨_, (pss_cons (ps_par (i := 3) (j := 4) (by rfl) sc_d_is_well_led.nd rfl rfl (by decide) rfl rfl (pa_cons (pe_disp1 (hu_of rm) pe_int pe_int) (pa_cons (pe_lst (pa_cons pe_int pa_nil)) pa_nil)) (by rfl))
      (pss_cons (ps_while PassesOwn.never (pt_cmpR (op_neD rm.units) (pv 4) (pe_lst pa_nil) (nomark _)) (pss_cons (ps_set (i := 5) sc_d_is_well_led.nd rfl (Or.inl rfl) (pe_bm0 PySem.F.plainAttrs_list PySem.F.slot_list_pop PySem.F.type_list_pop mt_pop (pv 4)))
      (pss_one (ps_for PassesOwn.never rfl (pi_enumA (by rfl) T.n_enumerate (pa_cons (pv 2) pa_nil)) (pg_tup (n := 2) rfl (pgs_cons (pg_name (i := 6) sc_d_is_well_led.nd rfl (Or.inl rfl)) (pgs_cons (pg_name (i := 7) sc_d_is_well_led.nd rfl (Or.inl rfl)) pgs_nil)))
      (pss_cons (ps_par (i := 8) (j := 9) (by rfl) sc_d_is_well_led.nd rfl rfl (by decide) rfl rfl (pa_cons (pe_meth (pv 1) T.cl T.m_times G_times (rm.mono (by decide)) b_times .nil pass0 (pa_cons (pv 5) (pa_cons (pv 7) pa_nil))) (pa_cons (pe_ix ix_tup (pe_ix ix_tup (pe_fld (pv 0) rfl) (pe_dget (hu_of rm) (pv 3) (pv 5) (fun _ _ => rfl)) (fun _ _ => rfl)) (pv 6) (fun _ _ => rfl)) pa_nil)) (by rfl))
      (pss_one (ps_if (pt_cmp (pc_dnotin (hu_of rm) (pv 8) (pv 3))) (pss_cons (ps_dput (hu_of rm) (pv 3) (pv 8) (pv 9) rfl)
      (pss_one (ps_expr (pe_bm PySem.F.plainAttrs_list PySem.F.slot_list_append PySem.F.type_list_append mt_append (pv 4) (pa_cons (pv 8) pa_nil))))) (pss_one (ps_if (pt_cmpR (op_ne) (pe_dget (hu_of rm) (pv 3) (pv 8) (fun _ _ => rfl)) (pv 9) (nomark _)) (pss_one (ps_ret pe_bl)) pss_nil)))))))))
      (pss_one (ps_ret pe_bl)))), ?_⟩
  refine fun ka hka => ⟨upd_same, elN.dic [(0, .int 0)], elN.one (x := 0) rfl, ?_⟩
  have e1 := (Ext.new (P := P) (w := w) (tb := tb) (C := CM K) (o := .dK []) hka).mut (o := elN.dic [(0, .int 0)]) (.of hka) upd_same rfl (fun _ _ _ _ _ => elN.ni _ _ _ _)
  refine ⟨(by show 1 ≤ sizeLine; decide), fun ra hra => ⟨_, _, rfl, ?_⟩⟩
  have hkr : ka ≠ ra := fun z => by rw [← z, upd_same] at hra; cases hra
  have L0 : LdH P w tb (CM K) H (upd (upd (upd H ka (.dK [])) ka (elN.dic [(0, .int 0)])) ra (.lst [.int 0])) ka ra [(0, 0)] [0] :=
    ⟨e1.trans (.new hra), by rw [upd_ne hkr, upd_same]; rfl, upd_same, .of hka, e1.nw hra⟩
  refine ⟨fun m σ H' => ∃ kn rest y0 y5 y6 y7 y8 y9, σ = [some (.ref m1), some (.ref m2), some (.ref va), some (.ref ka), some (.ref ra), y5, y6, y7, y8, y9] ∧ LdH P w tb (CM K) H H' ka ra kn rest ∧ LedI nums.length (nxM BB nums) (step AA) kn rest y0 nums.length ∧ (∀ p ∈ kn, p.1 < n2 ∧ p.2 < n1) ∧ m = 2 * (n2 - kn.length) + rest.length,
    ⟨_, _, _, 0, _, _, _, _, _, rfl, L0, LedI.start _ _ _, fun p hp => by rw [List.mem_singleton.mp hp]; exact ⟨z2, z1⟩, rfl⟩, fun m σ H' hW => ?_⟩
  obtain ⟨kn, rest, y0, y5, y6, y7, y8, y9, rfl, L, I, hb, rfl⟩ := hW
  have hknl : kn.length ≤ n2 := by
    have := nodup_lt I.nd fun x hx => by
      obtain ⟨p, hp, rfl⟩ := List.mem_map.mp hx
      exact (hb p hp).1
    simpa using this
  refine ⟨_, rfl, (by show 0 ≤ sizeLine; decide), fun e he => ?_⟩
  have ee := Ext.new (P := P) (w := w) (tb := tb) (C := CM K) (o := .lst []) he
  have L1 := L.ext ee
  refine ⟨dL rest, dL [], dp_lst (SqL.of L1.r), .lst (SqL.of upd_same) .nil, dL_shaped _, dL_shaped _, _, rfl, ?_⟩
  rw [dL_eqv]
  refine ite2 (fun hne => ?_) fun hemp => ?_
  · have hne' : rest ≠ [] := by simpa using hne
    obtain ⟨r', y, rfl⟩ : ∃ r' y, rest = r' ++ [y] := ⟨rest.dropLast, rest.getLast hne', (List.dropLast_concat_getLast hne').symm⟩
    refine ⟨fun σ' H'' => ∃ m', m' < 2 * (n2 - kn.length) + (r' ++ [y]).length ∧ (∃ kn rest y0 y5 y6 y7 y8 y9, σ' = [some (.ref m1), some (.ref m2), some (.ref va), some (.ref ka), some (.ref ra), y5, y6, y7, y8, y9] ∧ LdH P w tb (CM K) H H'' ka ra kn rest ∧ LedI nums.length (nxM BB nums) (step AA) kn rest y0 nums.length ∧ (∀ p ∈ kn, p.1 < n2 ∧ p.2 < n1) ∧ m' = 2 * (n2 - kn.length) + rest.length), fun σ' H'' h => h, ?_⟩
    obtain ⟨I1, hyr, a0, ha0⟩ := I.pop
    refine ⟨_, rfl, .inl ⟨rfl, _, SqL.of L1.r⟩, ra, _, nv y, rfl, rfl, L1.r, nvs_last _ _, ?_⟩
    rw [nvs_dropLast]
    have L2 := L1.pop
    have hva2 := L2.e.tup hva
    refine ⟨_, rfl, en_for (.inl hva2) (fun i σ H' => ∃ kn' rest' y6 y7 y8 y9, σ = [some (.ref m1), some (.ref m2), some (.ref va), some (.ref ka), some (.ref ra), some (nv y), y6, y7, y8, y9] ∧ LdH P w tb (CM K) H H' ka ra kn' rest' ∧ LedI nums.length (nxM BB nums) (step AA) kn' rest' y i ∧ y ∉ rest' ∧ (∃ a, (y, a) ∈ kn') ∧ (∀ p ∈ kn', p.1 < n2 ∧ p.2 < n1) ∧ 2 * (n2 - kn'.length) + rest'.length ≤ 2 * (n2 - kn.length) + r'.length)
      ⟨kn, r', y6, y7, y8, y9, rfl, L2, I1, hyr, ⟨a0, ha0⟩, hb, Nat.le_refl _⟩ (fun i σ H' ⟨_, _, _, _, _, _, _, L3, _⟩ => by rw [L3.e.tup hva, hva2]) (fun c σ H' T2 x hx ⟨kn', rest', y6, y7, y8, y9, es, L3, I3, hy3, ⟨a, ha⟩, hb3, hm3⟩ hT => ?_) fun σ H' ⟨kn', rest', y6, y7, y8, y9, es, L3, I3, hy3, ⟨a, ha⟩, hb3, hm3⟩ => ?_⟩
    · subst es
      rw [nvs_get] at hx
      obtain ⟨st, hst, rfl⟩ := Option.map_eq_some_iff.mp hx
      have hck : c < nums.length := (List.getElem?_eq_some_iff.mp hst).1
      have hstn := hnn st (List.mem_of_getElem? hst)
      obtain ⟨hyn, han⟩ := hb3 _ ha
      have eT := Ext.new (P := P) (w := w) (tb := tb) (C := CM K) (o := .tup [nv c, nv st]) hT
      have L4 := L3.ext eT
      have enx : nxM BB nums y c = mul BB y st := by
        unfold nxM
        rw [List.getD_eq_getElem?_getD, hst] <;> rfl
      have G2l := G2.form.len
      refine ⟨_, rfl, m2, dx2, _, rfl, L4.e.ins B2.ob, rfl, _, rfl, _, rfl, m2, BB, y, st, rfl, L4.e.ok ok, L4.e.mon ok m2 BB hM2, by rw [G2l]; exact hyn, by rw [G2l]; exact hstn, fun H5 e5 => ?_⟩
      have L5 := L4.ext e5
      obtain ⟨row, g1, g2⟩ := G1.form.get (x := a) han (c := c) (by omega)
      obtain ⟨vr, g3, b, rfl, g4⟩ := paired_get a12 g1
      have hget : DGet H5 ka (nv y) (some (nv a)) := by
        have := elN.get (x := y) L5.k rfl
        rw [knV_some I3.nd ha] at this
        exact this
      refine ⟨_, rfl, _, _, dx1, _, _, rfl, L5.e.ins B1.ob, T.cl, T.no_right, rfl, _, rfl, _, rfl, ka, _, rfl, hget, _, _, _, _, rfl, rfl, SqT.of (L5.e.tup a11), atI_nat g3, ?_⟩
      refine ⟨_, rfl, _, _, _, _, rfl, rfl, SqT.of (L5.e.tup g4), atI_nat (v := nv (step AA a c)) (by rw [nvs_get, g2]; rfl), ?_⟩
      refine ⟨_, _, rfl, ?_⟩
      have hln : mul BB y st < n2 := G2.mul_lt hyn hstn
      have himg : step AA a c < n1 := G1.form.step_lt han (by omega)
      have hget2 := elN.get (x := mul BB y st) L5.k rfl
      refine ⟨_, rfl, _, rfl, ka, _, rfl, hget2, _, rfl, ?_⟩
      by_cases hold : ∃ b, (mul BB y st, b) ∈ kn'
      · obtain ⟨b', hb'⟩ := hold
        have hv2 := knV_some I3.nd hb'
        refine iteF (by rw [hv2]; rfl) ?_
        rw [hv2] at hget2
        refine ⟨_, rfl, _, rfl, ka, _, rfl, hget2, _, rfl, rfl, _, rfl, ite2 (fun hdiff => ?_) fun hsame => ?_⟩
        · have hne2 : b' ≠ step AA a c := fun z => by
            rw [z] at hdiff
            simp at hdiff
          have hnl2 : ¬ LedRow AA BB nums := I3.bad hck ha (by rw [enx]; exact hb') hne2
          have := q H5 L5.e
          rw [ledB_false hnl2] at this
          exact this
        · have heq : b' = step AA a c := by
            simp at hsame
            have := V.int.inj hsame
            omega
          exact ⟨kn', rest', _, _, _, _, rfl, L5, I3.old hy3 ha (by rw [enx, ← heq]; exact hb'), hy3, ⟨a, ha⟩, hb3, hm3⟩
      · have hno : ∀ b, (mul BB y st, b) ∉ kn' := fun b hb => hold ⟨b, hb⟩
        have hv2 := knV_none hno
        refine iteT (by rw [hv2]; rfl) ?_
        have hk3 : kn'.length ≤ n2 := by
          have := nodup_lt I3.nd fun x hx => by
            obtain ⟨p, hp, rfl⟩ := List.mem_map.mp hx
            exact (hb3 p hp).1
          simpa using this
        obtain ⟨I4, hy4⟩ := I3.new hy3 hck ha (by rw [enx]; exact hno)
        rw [enx] at I4 hy4
        obtain ⟨hr5, L6⟩ := L5.add (x := mul BB y st) (a := step AA a c)
        have hk4 : (kn' ++ [(mul BB y st, step AA a c)]).length ≤ n2 := by
          have := nodup_lt I4.nd fun x hx => by
            obtain ⟨p, hp, rfl⟩ := List.mem_map.mp hx
            rcases List.mem_append.mp hp with h | h
            · exact (hb3 p h).1
            · rw [List.mem_singleton.mp h]
              exact hln
          simpa using this
        have hrl : rest'.length ≤ n2 := by
          have := nodup_len I3.rn (m := kn'.map (·.1)) fun x hx => by
            obtain ⟨b, hb⟩ := I3.rs x hx
            exact List.mem_map.mpr ⟨_, hb, rfl⟩
          simp at this
          omega
        refine ⟨_, rfl, _, rfl, _, rfl, ka, _, rfl, elN.put (x := mul BB y st) (y := nv (step AA a c)) L5.k rfl hv2 (line_of (by unfold knV; rw [List.length_map]; omega)), ?_⟩
        refine ⟨_, rfl, .inl ⟨rfl, _, SqL.of hr5⟩, _, rfl, ra, _, _, rfl, rfl, hr5, line_of (by rw [nvs_len]; omega), ?_⟩
        refine ⟨_, _, _, _, _, _, rfl, L6, I4, hy4, ⟨a, List.mem_append_left _ ha⟩, fun p hp => ?_, ?_⟩
        · rcases List.mem_append.mp hp with h | h
          · exact hb3 p h
          · rw [List.mem_singleton.mp h]
            exact ⟨hln, himg⟩
        · simp only [List.length_append, List.length_singleton] at hk4 ⊢
          omega
    · subst es
      rw [nvs_len] at I3
      exact ⟨_, by simp; omega, kn', rest', y, _, _, _, _, _, rfl, L3, I3, hb3, rfl⟩
  · have hemp' : rest = [] := by simpa using hemp
    subst hemp'
    have := q _ L1.e
    rw [ledB_true (show LedRow AA BB nums from I.done)] at this
    exact this
end
end K95
set_option Elab.async false
set_option linter.all false
set_option maxRecDepth 100000
set_option maxHeartbeats 4000000
set_option autoImplicit false
namespace K95
open PySem PySem.Spec PyProof.Rows L2
section
variable {P : Program} {w : World} {K : PySem.W.Frag} {mg : Str → Option Value} {base : Heap} {tb : Tbs}
/-- None, or the row -/
def DivR (H : Hp) (v : V) : Option (List Nat) → Prop
  | none => v = .non
  | some r => IntTup H v r
theorem find_at {α : Type} {p : α → Bool} : ∀ {l : List α} {i : Nat} {x : α}, l[i]? = some x → p x = true → (∀ (j : Nat) y, j < i → l[j]? = some y → p y = false) → l.find? p = some x
  | [], i, x, h, _, _ => by simp at h
  | a :: r, 0, x, h, hp, _ => by
    simp at h
    subst h
    rw [List.find?_cons, hp]
  | a :: r, i + 1, x, h, hp, hn => by
    have ha := hn 0 a (by omega) rfl
    rw [List.find?_cons, ha]
    exact find_at (by simpa using h) hp fun j y hj hy => hn (j + 1) y (by omega) (by simpa using hy)
theorem find_no {α : Type} {p : α → Bool} {l : List α} (h : ∀ (j : Nat) y, l[j]? = some y → p y = false) : l.find? p = none := by
  rw [List.find?_eq_none]
  intro x hx
  obtain ⟨j, hj⟩ := List.mem_iff_getElem?.mp hx
  rw [h j x hj]
  simp
noncomputable def divO (A B : Tab) (n2 k1 : Nat) : Option (List Nat) := (rowsL n2 k1).find? (ledB A B)
def spDivision (P : Program) (w : World) (tb : Tbs) (K : PySem.W.Frag) : Sp := fun vs H Q _ => ∃ (m1 m2 : Addr) (A B : Tab) (n1 k1 n2 k2 : Nat), vs = [.ref m1, .ref m2] ∧ Okk tb (CM K) H ∧ MonAt P w (CM K) H m1 A ∧ MonAt P w (CM K) H m2 B ∧ Good A n1 k1 ∧ Good B n2 k2 ∧ n1 * n2 * n2 ^ k1 ≤ 500000 ∧ n2 ^ k1 ≤ 10000 ∧
  ∀ H' v, Ext P w tb (CM K) H H' → DivR H' v (divO A B n2 k1) → Q v H'
theorem sc_d_division : FnScope ["one", "other", "letters", "many", "turn", "numbers"] ["one", "other"] d_division.scope := ⟨rfl, rfl, rfl, by decide +kernel, rfl, by decide +kernel, by decide +kernel⟩
theorem go_division (T : Txt K mg) : Go P w K mg base "division" ["one", "other"] 6 (spDivision P w tb K) := by
  obtain ⟨fd, F⟩ := T.fn 40
  obtain ⟨f_all_rows, fd_all_rows, m_all_rows, k_all_rows, b_all_rows, G_all_rows⟩ := go_all_rows (P := P) (w := w) (base := base) (tb := tb) T
  obtain ⟨f_is_well_led, fd_is_well_led, m_is_well_led, k_is_well_led, b_is_well_led, G_is_well_led⟩ := go_is_well_led (P := P) (w := w) (base := base) (tb := tb) T
  obtain ⟨t_MOST_SEARCHED_parts, h_MOST_SEARCHED_parts⟩ := T.i_MOST_SEARCHED_parts
  obtain ⟨f_checked, fd_checked, m_checked, k_checked, b_checked, G_checked⟩ := go_checked (P := P) (w := w) (base := base)  T
  refine ⟨_, fd, T.g_division, F.kp, F.bindsN (fun _ _ _ _ _ _ us hl => match us, hl with | [_, _], _ => rfl), okN F sc_d_division (fun vs H Q E h => by
    obtain ⟨_, _, _, _, _, _, _, _, rfl, _⟩ := h
    rfl) (fun cdv A outer s H vs Q E rm h => ?_)⟩
  obtain ⟨m1, m2, AA, BB, n1, k1, n2, k2, rfl, ok, hM1, hM2, G1, G2, hmany, hrows, q⟩ := h
  have hM1' := hM1
  have hM2' := hM2
  obtain ⟨_, dx1, r1, t1, l1, d1, B1, _⟩ := hM1'
  obtain ⟨_, dx2, r2, t2, l2, d2, B2, _⟩ := hM2'
  obtain ⟨rs1, a11, a12⟩ := B1.right
  obtain ⟨rs2, a21, a22⟩ := B2.right
  have z1 := G1.form.n1
  have z2 := G2.form.n1
  have zk := G1.form.k2
  have zn := G2.form.n2
  have zn1 := G1.form.n2
  have ln1 : rs1.length = n1 := by rw [paired_len a12, G1.form.len]
  have ln2 : rs2.length = n2 := by rw [paired_len a22, G2.form.len]
  obtain ⟨row0, g1, g2, _⟩ := G1.form.at (x := 0) z1
  obtain ⟨v0, g3, b0, rfl, g4⟩ := paired_get a12 g1
  refine ⟨_, (pss_cons (ps_expr (pe_call G_checked (rm.mono (by decide)) rfl m_checked k_checked b_checked .nil pass0 (pa_cons (pv 0) pa_nil)))
      (pss_cons (ps_expr (pe_call G_checked (rm.mono (by decide)) rfl m_checked k_checked b_checked .nil pass0 (pa_cons (pv 1) pa_nil)))
      (pss_cons (ps_par (i := 2) (j := 3) (by rfl) sc_d_division.nd rfl rfl (by decide) rfl rfl (pa_cons (pe_callB call_len_seq (by rfl) T.n_len boot_len (pa_cons (pe_ix ix_tup (pe_fld (pv 0) rfl) pe_int (fun _ _ => rfl)) pa_nil)) (pa_cons (pe_op op_mul (pe_callB call_len_seq (by rfl) T.n_len boot_len (pa_cons (pe_fld (pv 0) rfl) pa_nil)) (pe_callB call_len_seq (by rfl) T.n_len boot_len (pa_cons (pe_fld (pv 1) rfl) pa_nil))) pa_nil)) (by rfl))
      (pss_cons (ps_for PassesOwn.never rfl (pi_range1 rfl T.n_range (pa_cons (pv 2) pa_nil)) (pg_name (i := 4) sc_d_division.nd rfl (Or.inl rfl))
      (pss_one (ps_set (i := 3) sc_d_division.nd rfl (Or.inl rfl) (pe_op op_mul (pv 3) (pe_callB call_len_seq (by rfl) T.n_len boot_len (pa_cons (pe_fld (pv 1) rfl) pa_nil))))))
      (pss_cons (ps_if (pt_cmpR (op_gt) (pv 3) (pe_glob (v := .int 500000) rfl h_MOST_SEARCHED_parts ⟨_, rfl⟩) (nomark _)) (pss_one (ps_never)) pss_nil)
      (pss_cons (ps_for PassesOwn.never rfl (pi_list (pe_call G_all_rows (rm.mono (by decide)) rfl m_all_rows k_all_rows b_all_rows .nil pass0 (pa_cons (pe_callB call_len_seq (by rfl) T.n_len boot_len (pa_cons (pe_fld (pv 1) rfl) pa_nil)) (pa_cons (pv 2) pa_nil)))) (pg_name (i := 5) sc_d_division.nd rfl (Or.inl rfl))
      (pss_one (ps_if (pt_val (pe_call G_is_well_led (rm.mono (by decide)) rfl m_is_well_led k_is_well_led b_is_well_led .nil pass0 (pa_cons (pv 0) (pa_cons (pv 1) (pa_cons (pv 5) pa_nil))))) (pss_one (ps_ret (pv 5))) pss_nil)))
      (pss_one (ps_ret pe_non)))))))), ?_⟩
  refine ⟨_, rfl, m1, dx1, _, rfl, B1.ob, ?_⟩
  refine ⟨_, rfl, m2, dx2, _, rfl, B2.ob, ?_⟩
  refine ⟨_, rfl, _, _, dx1, _, _, rfl, B1.ob, T.cl, T.no_right, rfl, _, _, _, _, rfl, rfl, SqT.of a11, atI_nat (j := 0) g3, _, _, rfl, .inr (SqT.of g4), ?_⟩
  refine ⟨_, rfl, _, _, dx1, _, _, rfl, B1.ob, T.cl, T.no_right, rfl, _, _, rfl, .inr (SqT.of a11), _, rfl, _, _, dx2, _, _, rfl, B2.ob, T.cl, T.no_right, rfl, _, _, rfl, .inr (SqT.of a21), _, _, rfl, rfl, .inl ⟨by omega, by omega⟩, _, _, rfl, ?_⟩
  rw [nvs_len, g2, ln1, ln2]
  have big : ∀ i, i ≤ k1 → n1 * n2 * n2 ^ i ≤ 500000 := fun i hi => Nat.le_trans (Nat.mul_le_mul_left _ (Nat.pow_le_pow_right z2 hi)) hmany
  refine ⟨_, rfl, (k1 : Int), rfl, by omega, by omega, for_it walk_range (fun i σ H' => ∃ y4, σ = [some (.ref m1), some (.ref m2), some (nv k1), some (.int ((n1 * n2 * n2 ^ i : Nat) : Int)), y4, none] ∧ H' = H) ⟨none, by rw [Nat.pow_zero, Nat.mul_one, Int.natCast_mul]; rfl, rfl⟩ (fun _ _ _ _ _ => trivial) (fun i x σ H' H6 hi ⟨y4, es, eH⟩ hy => ?_) fun σ H' ⟨y4, es, eH⟩ => ?_⟩
  · obtain ⟨rfl, rfl⟩ := hy
    subst es eH
    have hi' : i < k1 := hi
    have hb := big i (by omega)
    refine ⟨_, rfl, _, rfl, _, _, dx2, _, _, rfl, B2.ob, T.cl, T.no_right, rfl, _, _, rfl, .inr (SqT.of a21), _, _, rfl, rfl, .inl ⟨by omega, by omega⟩, ?_⟩
    refine ⟨some (.int (0 + (i : Int))), ?_, rfl⟩
    rw [ln2]
    show [_, _, _, some (V.int (((n1 * n2 * n2 ^ i : Nat) : Int) * (n2 : Int))), some (V.int (0 + (i : Int))), none] = _
    rw [← Int.natCast_mul, Nat.mul_assoc, ← Nat.pow_succ]
  · subst es eH
    refine ⟨_, rfl, _, _, rfl, rfl, _, rfl, iteF (decide_eq_false ?_) ?_⟩
    · have h5 : ((n1 * n2 * n2 ^ k1 : Nat) : Int) ≤ ((500000 : Nat) : Int) := Int.ofNat_le.mpr hmany
      show ¬ (500000 : Int) < ((n1 * n2 * n2 ^ k1 : Nat) : Int)
      exact Int.not_lt.mpr h5
    refine ⟨_, rfl, _, _, dx2, _, _, rfl, B2.ob, T.cl, T.no_right, rfl, _, _, rfl, .inr (SqT.of a21), _, rfl, n2, k1, by rw [ln2]; rfl, z2, hrows, by omega, by omega, fun H1 p vs' e1 hp hpd => ?_⟩
    refine ⟨p, rfl, ⟨_, SqL.of hp⟩, for_it (walk_list (xs := vs')) (fun i σ H' => ∃ y5, σ = [some (.ref m1), some (.ref m2), some (nv k1), some (.int ((n1 * n2 * n2 ^ k1 : Nat) : Int)), y4, y5] ∧ Ext P w tb (CM K) H1 H' ∧ ∀ (j : Nat) r, j < i → (rowsL n2 k1)[j]? = some r → ledB AA BB r = false) ⟨none, rfl, .refl _, fun j r hj => by omega⟩ (fun i σ H' _ ⟨_, _, e, _⟩ => SqL.of (e.lst hp)) (fun i x σ H' H6 hi ⟨y5, es, e, hno⟩ hy => ?_) fun σ H' ⟨y5, es, e, hno⟩ => ?_⟩
    · obtain ⟨rfl, hx⟩ := hy
      subst es
      obtain ⟨r, gr, hr⟩ := paired_get' hpd hx
      obtain ⟨hrl, hrn⟩ := rowsL_mem.mp (List.mem_of_getElem? gr)
      have eA := e1.trans e
      refine ⟨_, rfl, _, rfl, _, rfl, m1, m2, x, AA, BB, n1, k1, n2, k2, r, rfl, eA.ok ok, eA.mon ok m1 AA hM1, eA.mon ok m2 BB hM2, G1, G2, hr.ext e, hrl, hrn, fun H7 e7 => ⟨_, rfl, ite2 (fun hled => ?_) fun hled => ?_⟩⟩
      · refine ⟨_, rfl, q H7 x (eA.trans e7) ?_⟩
        unfold divO
        rw [find_at gr hled hno]
        exact (hr.ext e).ext e7
      · refine ⟨_, rfl, e.trans e7, fun j s hj hs => ?_⟩
        by_cases hji : j < i
        · exact hno j s hji hs
        · have : j = i := by omega
          subst this
          rw [gr] at hs
          cases hs
          exact hled
    · subst es
      refine q _ _ (e1.trans e) ?_
      unfold divO
      rw [find_no fun j r hr => hno j r (by rw [paired_len hpd]; exact (List.getElem?_eq_some_iff.mp hr).1) hr]
      rfl
end
end K95
set_option Elab.async false
set_option linter.all false
set_option maxRecDepth 100000
set_option maxHeartbeats 4000000
set_option autoImplicit false
namespace K95
open PySem PySem.Spec PyProof.Rows L2
theorem upd_id {H : Hp} {a : Addr} {o : HO} (h : H a = some o) : upd H a o = H := by
  funext b
  by_cases e : b = a
  · subst e
    rw [upd_same, h]
  · rw [upd_ne e]
theorem upd_upd {H : Hp} {a : Addr} {o o' : HO} : upd (upd H a o) a o' = upd H a o' := by
  funext b
  by_cases e : b = a
  · subst e
    rw [upd_same, upd_same]
  · rw [upd_ne e, upd_ne e, upd_ne e]
theorem ixN_of {n j : Nat} (h : j < n) : ixN n (j : Int) = some j := by
  unfold ixN
  rw [if_pos (by omega)]
  simp [h]
theorem at_get {r : List Nat} {i : Nat} (h : i < r.length) : (nvs r)[i]? = some (nv (at_ r i)) := by
  rw [nvs_get, List.getElem?_eq_getElem h]
  unfold at_
  rw [List.getD_eq_getElem?_getD, List.getElem?_eq_getElem h] <;> rfl
theorem nvs_set {r : List Nat} {i v : Nat} : (nvs r).set i (nv v) = nvs (r.set i v) := by
  unfold nvs
  rw [List.map_set]
section
variable {P : Program} {w : World} {K : PySem.W.Frag} {mg : Str → Option Value} {base : Heap} {tb : Tbs}
def spRootOf : Sp := fun vs H Q _ => ∃ (ra : Addr) (r : List Nat) (n x : Nat), vs = [.ref ra, nv x] ∧ H ra = some (.lst (nvs r)) ∧ UF r n ∧ x < n ∧ ∀ r', UF r' n → (∀ j, j < n → rt r' j = rt r j) → Q (nv (rt r x)) (upd H ra (.lst (nvs r')))
theorem sc_d_root_of : FnScope ["roots", "number"] ["roots", "number"] d_root_of.scope := ⟨rfl, rfl, rfl, by decide +kernel, rfl, by decide +kernel, by decide +kernel⟩
theorem go_root_of (T : Txt K mg) : Go P w K mg base "root_of" ["roots", "number"] 1 (spRootOf) := by
  obtain ⟨fd, F⟩ := T.fn 20
  refine ⟨_, fd, T.g_root_of, F.kp, F.bindsN (fun _ _ _ _ _ _ us hl => match us, hl with | [_, _], _ => rfl), okN F sc_d_root_of (fun vs H Q E h => by
    obtain ⟨_, _, _, _, rfl, _⟩ := h
    rfl) (fun cdv A outer s H vs Q E rm h => ?_)⟩
  obtain ⟨ra, r, n, x, rfl, hr, U, hx, q⟩ := h
  refine ⟨_, (pss_cons (ps_while PassesOwn.never (pt_cmpR (op_ne) (pe_ix ix_list (pv 0) (pv 1) (fun _ _ => rfl)) (pv 1) (nomark _)) (pss_cons (ps_asg (pe_ix ix_list (pv 0) (pe_ix ix_list (pv 0) (pv 1) (fun _ _ => rfl)) (fun _ _ => rfl)) (pg_sub (pv 0) (pv 1) set_list))
      (pss_one (ps_set (i := 1) sc_d_root_of.nd rfl (Or.inl rfl) (pe_ix ix_list (pv 0) (pv 1) (fun _ _ => rfl))))))
      (pss_one (ps_ret (pv 1)))), ?_⟩
  refine ⟨fun m σ H' => ∃ r' y, σ = [some (.ref ra), some (nv y)] ∧ H' = upd H ra (.lst (nvs r')) ∧ UF r' n ∧ (∀ j, j < n → rt r' j = rt r j) ∧ y < n ∧ rt r y = rt r x ∧ m = y, ⟨x, r, x, rfl, (upd_id hr).symm, U, fun _ _ => rfl, hx, rfl, rfl⟩, fun m σ H' hW => ?_⟩
  obtain ⟨r', y, rfl, rfl, U', same, hy, hyx, hm⟩ := hW
  have hl := U'.len
  have g := at_get (r := r') (i := y) (by omega)
  refine ⟨_, rfl, _, rfl, _, _, _, _, rfl, rfl, SqL.of upd_same, atI_nat g, _, rfl, rfl, _, rfl, ite2 (fun hne => ?_) fun heq => ?_⟩
  · have hlt : at_ r' y < y := by
      have h1 := U'.le y hy
      have h2 : at_ r' y ≠ y := fun z => by
        rw [z] at hne
        simp at hne
      omega
    have g2 := at_get (r := r') (i := at_ r' y) (by omega)
    have hle2 := U'.le (at_ r' y) (by omega)
    obtain ⟨U2, same2⟩ := U'.half hy (v := at_ r' (at_ r' y)) (by omega) (by rw [← rt_step U' (by omega), ← rt_step U' hy])
    refine ⟨fun σ' H'' => ∃ m', m' < m ∧ (∃ r' y, σ' = [some (.ref ra), some (nv y)] ∧ H'' = upd H ra (.lst (nvs r')) ∧ UF r' n ∧ (∀ j, j < n → rt r' j = rt r j) ∧ y < n ∧ rt r y = rt r x ∧ m' = y), fun σ' H'' h => h, ?_⟩
    refine ⟨_, rfl, _, rfl, _, rfl, _, _, _, _, rfl, rfl, SqL.of upd_same, atI_nat g, _, _, _, _, rfl, rfl, SqL.of upd_same, atI_nat g2, ?_⟩
    refine ⟨_, rfl, _, rfl, ra, _, _, y, rfl, rfl, upd_same, ixN_of (by rw [nvs_len]; omega), ?_⟩
    rw [nvs_set, upd_upd]
    have g3 := at_get (r := r'.set y (at_ r' (at_ r' y))) (i := y) (by simp; omega)
    have e3 : at_ (r'.set y (at_ r' (at_ r' y))) y = at_ r' (at_ r' y) := by rw [at_set, if_pos ⟨rfl, by omega⟩]
    rw [e3] at g3
    refine ⟨_, rfl, _, rfl, _, _, _, _, rfl, rfl, SqL.of upd_same, atI_nat g3, ?_⟩
    refine ⟨at_ r' (at_ r' y), by omega, _, _, rfl, rfl, U2, fun j hj => by rw [same2 j hj, same j hj], by omega, ?_, rfl⟩
    rw [← same _ (by omega), ← rt_step U' (by omega), ← rt_step U' hy, same y hy]
    exact hyx
  · have hfix : at_ r' y = y := by
      simp at heq
      have := V.int.inj heq
      omega
    have e1 : rt r x = y := by rw [← hyx, ← same y hy, rt_fix U' hy hfix]
    refine ⟨_, rfl, ?_⟩
    have := q r' U' same
    rw [e1] at this
    exact this
theorem nroots_congr {r r' : List Nat} {n : Nat} (h : ∀ j, j < n → rt r' j = rt r j) : nroots r' n = nroots r n := by
  unfold nroots
  have : ∀ l : List Nat, (∀ x ∈ l, x < n) → (l.filter fun i => decide (rt r' i = i)) = l.filter fun i => decide (rt r i = i) := by
    intro l hl
    refine List.filter_congr fun x hx => ?_
    rw [h x (hl x hx)]
  rw [this _ fun x hx => List.mem_range.mp hx]
def spJoined : Sp := fun vs H Q _ => ∃ (ra : Addr) (r : List Nat) (n x y : Nat), vs = [.ref ra, nv x, nv y] ∧ H ra = some (.lst (nvs r)) ∧ UF r n ∧ x < n ∧ y < n ∧
  (rt r x = rt r y → ∀ r', UF r' n → (∀ j, j < n → rt r' j = rt r j) → Q .non (upd H ra (.lst (nvs r')))) ∧
  (rt r x ≠ rt r y → ∀ r' t, UF r' n → (∀ j, j < n → rt r' j = if rt r j = max (rt r x) (rt r y) then min (rt r x) (rt r y) else rt r j) → nroots r' n < nroots r n → (upd H ra (.lst (nvs r'))) t = none → Q (.ref t) (upd (upd H ra (.lst (nvs r'))) t (.tup [nv (rt r x), nv (rt r y)])))
theorem sc_d_joined_with : FnScope ["roots", "one", "other"] ["roots", "one", "other"] d_joined_with.scope := ⟨rfl, rfl, rfl, by decide +kernel, rfl, by decide +kernel, by decide +kernel⟩
theorem go_joined_with (T : Txt K mg) : Go P w K mg base "joined_with" ["roots", "one", "other"] 2 (spJoined) := by
  obtain ⟨fd, F⟩ := T.fn 21
  obtain ⟨f_root_of, fd_root_of, m_root_of, k_root_of, b_root_of, G_root_of⟩ := go_root_of (P := P) (w := w) (base := base)  T
  refine ⟨_, fd, T.g_joined_with, F.kp, F.bindsN (fun _ _ _ _ _ _ us hl => match us, hl with | [_, _, _], _ => rfl), okN F sc_d_joined_with (fun vs H Q E h => by
    obtain ⟨_, _, _, _, _, rfl, _⟩ := h
    rfl) (fun cdv A outer s H vs Q E rm h => ?_)⟩
  obtain ⟨ra, r, n, x, y, rfl, hr, U, hx, hy, q1, q2⟩ := h
  refine ⟨_, (pss_cons (ps_par (i := 1) (j := 2) (by rfl) sc_d_joined_with.nd rfl rfl (by decide) rfl rfl (pa_cons (pe_call G_root_of (rm.mono (by decide)) rfl m_root_of k_root_of b_root_of .nil pass0 (pa_cons (pv 0) (pa_cons (pv 1) pa_nil))) (pa_cons (pe_call G_root_of (rm.mono (by decide)) rfl m_root_of k_root_of b_root_of .nil pass0 (pa_cons (pv 0) (pa_cons (pv 2) pa_nil))) pa_nil)) (by rfl))
      (pss_cons (ps_if (pt_cmpR (op_eq) (pv 1) (pv 2) (nomark _)) (pss_one (ps_ret pe_non)) pss_nil)
      (pss_cons (ps_asg (pe_callB (call_min2 rfl) (by rfl) T.n_min boot_min (pa_cons (pv 1) (pa_cons (pv 2) pa_nil))) (pg_sub (pv 0) (pe_callB (call_max2 rfl) (by rfl) T.n_max boot_max (pa_cons (pv 1) (pa_cons (pv 2) pa_nil))) set_list))
      (pss_one (ps_ret (pe_tup (pa_cons (pv 1) (pa_cons (pv 2) pa_nil)))))))), ?_⟩
  refine ⟨_, rfl, _, rfl, ra, r, n, x, rfl, hr, U, hx, fun r1 U1 s1 => ?_⟩
  refine ⟨_, rfl, _, rfl, ra, r1, n, y, rfl, upd_same, U1, hy, fun r2 U2 s2 => ?_⟩
  rw [upd_upd, s1 y hy]
  refine ⟨_, _, rfl, _, rfl, _, rfl, rfl, _, rfl, ite2 (fun heq => ?_) fun hne => ?_⟩
  · have e : rt r x = rt r y := by
      have := V.int.inj (of_decide_eq_true heq)
      omega
    exact q1 e r2 U2 fun j hj => by rw [s2 j hj, s1 j hj]
  · have ne : rt r x ≠ rt r y := fun z => by
      rw [z] at hne
      simp at hne
    have hs : ∀ j, j < n → rt r2 j = rt r j := fun j hj => by rw [s2 j hj, s1 j hj]
    have lx := rt_le r x
    have ly := rt_le r y
    have fx : at_ r2 (rt r x) = rt r x := by rw [← hs x hx]; exact rt_root U2 hx
    have fy : at_ r2 (rt r y) = rt r y := by rw [← hs y hy]; exact rt_root U2 hy
    have hmaxn : max (rt r x) (rt r y) < n := by omega
    have hmm : min (rt r x) (rt r y) < max (rt r x) (rt r y) := by omega
    have fmax : at_ r2 (max (rt r x) (rt r y)) = max (rt r x) (rt r y) := by
      rcases Nat.le_total (rt r x) (rt r y) with h | h
      · rw [Nat.max_eq_right h]; exact fy
      · rw [Nat.max_eq_left h]; exact fx
    have fmin : at_ r2 (min (rt r x) (rt r y)) = min (rt r x) (rt r y) := by
      rcases Nat.le_total (rt r x) (rt r y) with h | h
      · rw [Nat.min_eq_left h]; exact fx
      · rw [Nat.min_eq_right h]; exact fy
    obtain ⟨U3, h3⟩ := U2.join hmaxn hmm fmax fmin
    have hroots := U2.join_roots hmaxn hmm fmax fmin
    rw [nroots_congr hs] at hroots
    refine ⟨_, rfl, _, rfl, _, _, rfl, ?_⟩
    refine ⟨_, rfl, _, rfl, _, rfl, _, _, rfl, ?_⟩
    have emax : (if ((rt r y : Nat) : Int) > ((rt r x : Nat) : Int) then ((rt r y : Nat) : Int) else ((rt r x : Nat) : Int)) = ((max (rt r x) (rt r y) : Nat) : Int) := by
      split <;> omega
    have emin : (if ((rt r y : Nat) : Int) < ((rt r x : Nat) : Int) then ((rt r y : Nat) : Int) else ((rt r x : Nat) : Int)) = ((min (rt r x) (rt r y) : Nat) : Int) := by
      split <;> omega
    rw [emax, emin]
    refine ⟨ra, _, _, max (rt r x) (rt r y), rfl, rfl, upd_same, ixN_of (by rw [nvs_len, U2.len]; exact hmaxn), ?_⟩
    have eset : (nvs r2).set (max (rt r x) (rt r y)) (V.int ((min (rt r x) (rt r y) : Nat) : Int)) = nvs (r2.set (max (rt r x) (rt r y)) (min (rt r x) (rt r y))) := nvs_set
    rw [eset, upd_upd]
    refine ⟨_, rfl, _, rfl, (by show 2 ≤ sizeLine; decide), fun t ht => ?_⟩
    exact q2 ne _ t U3 (fun j hj => by rw [h3 j hj, hs j hj]) hroots ht
def spTold (P : Program) (w : World) (tb : Tbs) (K : PySem.W.Frag) : Sp := fun vs H Q _ => ∃ (ra : Addr) (r : List Nat) (n : Nat) (H0 : Hp), vs = [.ref ra] ∧ H ra = some (.lst (nvs r)) ∧ UF r n ∧ n ≤ 10000 ∧ Ext P w tb (CM K) H0 H ∧ Nw H0 ra ∧
  ∀ H' p, Ext P w tb (CM K) H0 H' → H' p = some (.tup (nvs ((List.range n).map (rt r)))) → Q (.ref p) H'
theorem sc_d_told_classes : FnScope ["roots", "number"] ["roots"] d_told_classes.scope := ⟨rfl, rfl, rfl, by decide +kernel, rfl, by decide +kernel, by decide +kernel⟩
theorem go_told_classes (T : Txt K mg) : Go P w K mg base "told_classes" ["roots"] 2 (spTold P w tb K) := by
  obtain ⟨fd, F⟩ := T.fn 22
  obtain ⟨f_root_of, fd_root_of, m_root_of, k_root_of, b_root_of, G_root_of⟩ := go_root_of (P := P) (w := w) (base := base)  T
  refine ⟨_, fd, T.g_told_classes, F.kp, F.bindsN (fun _ _ _ _ _ _ us hl => match us, hl with | [_], _ => rfl), okN F sc_d_told_classes (fun vs H Q E h => by
    obtain ⟨_, _, _, _, rfl, _⟩ := h
    rfl) (fun cdv A outer s H vs Q E rm h => ?_)⟩
  obtain ⟨ra, r, n, H0, rfl, hr, U, hn, e0, nw, q⟩ := h
  refine ⟨_, (pss_one (ps_ret (pe_callTy call_tuple_of (by rfl) T.n_tuple boot_tuple (pa_cons (pe_lc (own := [("number", 1)]) (g := gName 1) rfl sc_d_told_classes.nd (pi_range1 rfl T.n_range (pa_cons (pe_callB call_len_seq (by rfl) T.n_len boot_len (pa_cons (pv 0) pa_nil)) pa_nil)) (blkOk_by (N := ["roots", "number"]) (sc := d_told_classes.scope) (by decide +kernel)) (fun _ _ _ _ _ => (pg_name (i := 1) sc_d_told_classes.nd rfl (Or.inl rfl))) (fun _ _ _ _ _ => pts_nil) (fun _ _ _ _ _ => pe_c (pe_call G_root_of (rm.mono (by decide)) rfl m_root_of k_root_of b_root_of .nil pass0 (pa_cons (pv 0) (pa_cons (pv 1) pa_nil))))) pa_nil)))), ?_⟩
  refine ⟨_, rfl, ra, _, rfl, .inl (SqL.of hr), (n : Int), by rw [nvs_len, U.len], by omega, by omega, fun D hD => ?_⟩
  have hDr : ra ≠ D := ne_of_none hr hD
  have nD : Nw H0 D := e0.nw hD
  have eD : Ext P w tb (CM K) H0 (upd H D (.lst [])) := e0.trans (.new hD)
  refine lc_it (walk_range (lo := 0) (n := n)) (fun i H' => Ext P w tb (CM K) H0 H' ∧ (∃ r', H' ra = some (.lst (nvs r')) ∧ UF r' n ∧ ∀ j, j < n → rt r' j = rt r j) ∧ H' D = some (.lst (nvs ((List.range i).map (rt r))))) ⟨eD, ⟨r, by rw [upd_ne hDr]; exact hr, U, fun _ _ => rfl⟩, upd_same⟩ (fun _ _ _ _ => trivial)
    (fun i x H' H6 hi ⟨e, ⟨r', hr', U', same⟩, hD'⟩ hy => ?_) fun H' ⟨e, _, hD'⟩ => ?_
  · obtain ⟨rfl, rfl⟩ := hy
    refine ⟨rfl, _, rfl, _, rfl, ra, r', n, i, by show [V.ref ra, V.int (0 + (i : Int))] = _; rw [Int.zero_add] <;> rfl, hr', U', hi, fun r2 U2 s2 => ?_⟩
    have e2 := e.mut (o := .lst (nvs r2)) nw hr' rfl
    have hD2 : (upd H6 ra (.lst (nvs r2))) D = some (.lst (nvs ((List.range i).map (rt r)))) := by rw [upd_ne hDr.symm]; exact hD'
    refine ⟨_, hD2, line_of (by rw [nvs_len]; simp; omega), e2.mut nD hD2 rfl, ⟨r2, by rw [upd_ne hDr, upd_same], U2, fun j hj => by rw [s2 j hj, same j hj]⟩, ?_⟩
    rw [upd_same, List.range_succ, List.map_append, same i hi]
    unfold nvs
    rw [List.map_append] <;> rfl
  · refine ⟨D, _, rfl, .inl ⟨SqL.of hD', fun p hp => ?_⟩⟩
    exact q _ p (e.trans (.new hp)) upd_same
end
end K95
set_option Elab.async false
set_option linter.all false
set_option maxRecDepth 100000
set_option maxHeartbeats 4000000
set_option autoImplicit false
namespace K95
open PySem PySem.Spec PyProof.Rows L2
def LstOf (H : Hp) (v : V) (l : List Nat) : Prop := ∃ a, v = .ref a ∧ H a = some (.lst (nvs l))
theorem walk_zipT {K : PySem.W.Frag} {a b : Addr} {xs ys : List V} (hl : xs.length = ys.length) : Walk (RZ.ItzT K a b) xs.length (fun H => SqT K H a xs ∧ SqT K H b ys) (YPair (fun i => xs[i]?) (fun i => ys[i]?)) := by
  refine ⟨fun i H hi h => ?_, fun H h => ?_, fun i H v H' hi h y => ?_⟩
  · exact ⟨xs, ys, xs[i], ys[i]'(by omega), h.1, h.2, List.getElem?_eq_getElem hi, List.getElem?_eq_getElem (by omega)⟩
  · exact ⟨xs, ys, h.1, h.2, .inl (Nat.le_refl _)⟩
  · obtain ⟨T, x, y', h1, h2, h3, h4, h5⟩ := y
    exact ⟨T, x, y', h1, h2, h3, h4 xs h.1, h5 ys h.2⟩
section
variable {P : Program} {w : World} {K : PySem.W.Frag} {mg : Str → Option Value} {base : Heap} {tb : Tbs}
theorem LstOf.ext {C : Addr} {H H' : Hp} (e : Ext P w tb C H H') {v : V} {l : List Nat} (h : LstOf H v l) : LstOf H' v l := by
  obtain ⟨a, r, h⟩ := h
  exact ⟨a, r, e.lst h⟩
def StepsAt (H : Hp) (a : Addr) (S : Tab) : Prop := ∃ vs, H a = some (.lst vs) ∧ Paired (LstOf H) vs S
theorem StepsAt.ext {C : Addr} {H H' : Hp} (e : Ext P w tb C H H') {a : Addr} {S : Tab} (h : StepsAt H a S) : StepsAt H' a S := by
  obtain ⟨vs, h1, h2⟩ := h
  exact ⟨vs, e.lst h1, Paired.mapP h2 fun _ _ z => z.ext e⟩
def spSteps (P : Program) (w : World) (tb : Tbs) (K : PySem.W.Frag) : Sp := fun vs H Q _ => ∃ (m : Addr) (T : Tab) (n k : Nat), vs = [.ref m] ∧ MonAt P w (CM K) H m T ∧ Good T n k ∧ ∀ H' p, Ext P w tb (CM K) H H' → StepsAt H' p (stepsOf T) → Q (.ref p) H'
theorem sc_d_steps_by_letters : FnScope ["monoid", "right", "one"] ["monoid"] d_steps_by_letters.scope := ⟨rfl, rfl, rfl, by decide +kernel, rfl, by decide +kernel, by decide +kernel⟩
theorem go_steps_by_letters (T : Txt K mg) : Go P w K mg base "steps_by_letters" ["monoid"] 2 (spSteps P w tb K) := by
  obtain ⟨fd, F⟩ := T.fn 19
  obtain ⟨fd_left, b_left, G_left⟩ := go_left (P := P) (w := w) (base := base)  T
  refine ⟨_, fd, T.g_steps_by_letters, F.kp, F.bindsN (fun _ _ _ _ _ _ us hl => match us, hl with | [_], _ => rfl), okN F sc_d_steps_by_letters (fun vs H Q E h => by
    obtain ⟨_, _, _, _, rfl, _⟩ := h
    rfl) (fun cdv A outer s H vs Q E rm h => ?_)⟩
  obtain ⟨m, T', n, k, rfl, hM, hG, q⟩ := h
  refine ⟨_, (pss_one (ps_ret (pe_lc (own := [("right", 1), ("one", 2)]) (g := g2 K 1 2) rfl sc_d_steps_by_letters.nd (RZ.pi_zipA (by rfl) T.n_zip (pa_cons (pe_fld (pv 0) rfl) (pa_cons (pe_meth0 (pv 0) T.cl T.m_left G_left (rm.mono (by decide)) b_left .nil pass0) pa_nil))) (blkOk_by (N := ["monoid", "right", "one"]) (sc := d_steps_by_letters.scope) (by decide +kernel)) (fun _ _ _ _ _ => (pg_tup (n := 2) rfl (pgs_cons (pg_name (i := 1) sc_d_steps_by_letters.nd rfl (Or.inl rfl)) (pgs_cons (pg_name (i := 2) sc_d_steps_by_letters.nd rfl (Or.inl rfl)) pgs_nil)))) (fun _ _ _ _ _ => pts_nil) (fun _ _ _ _ _ => pe_c (pe_op op_cat (pe_callTy call_list_of (by rfl) T.n_list boot_list (pa_cons (pv 1) pa_nil)) (pe_callTy call_list_of (by rfl) T.n_list boot_list (pa_cons (pv 2) pa_nil))))))), ?_⟩
  have hM' := hM
  obtain ⟨_, dx, r, t, l, d, hB, _⟩ := hM'
  obtain ⟨rs, h1, h2⟩ := hB.right
  have hF := hG.form
  have n2 := hF.n2
  have k2 := hF.k2
  refine ⟨_, rfl, _, _, dx, _, _, rfl, hB.ob, T.cl, T.no_right, rfl, _, rfl, m, dx, _, rfl, hB.ob, rfl, m, T', rfl, hM, fun lf hlf => ?_⟩
  obtain ⟨ls, g1, g2'⟩ := hlf
  have hl : rs.length = ls.length := by rw [paired_len h2, paired_len g2', hF.len, hG.ordd.lefts_len]
  have hrn : rs.length = n := by rw [paired_len h2, hF.len]
  have hSl : (stepsOf T').length = n := (stepsOf_form hG).len
  refine ⟨r, lf, rs, ls, rfl, .inr ⟨SqT.of h1, SqT.of g1, fun D hD => ?_⟩⟩
  have nD : Nw H D := .of hD
  refine lc_it (walk_zipT hl) (fun i H' => Ext P w tb (CM K) H H' ∧ ∃ vs, H' D = some (.lst vs) ∧ Paired (fun v l => ∃ a, v = .ref a ∧ a ≠ D ∧ H' a = some (.lst (nvs l))) vs ((stepsOf T').take i)) ⟨.new hD, [], upd_same, .nil⟩ (fun i H' _ ⟨e, _⟩ => ⟨SqT.of (e.tup h1), SqT.of (e.tup g1)⟩)
    (fun i x H' H6 hi ⟨e, vs, hv, hp⟩ hy => ?_) fun H' ⟨e, vs, hv, hp⟩ => ?_
  · obtain ⟨T0, x1, x2, rfl, hT0, rfl, e1, e2⟩ := hy
    have eT := Ext.new (P := P) (w := w) (tb := tb) (C := CM K) (o := .tup [x1, x2]) hT0
    obtain ⟨row, gr, b, rfl, hb⟩ := paired_get' h2 e1
    obtain ⟨lrow, gl, b', rfl, hb'⟩ := paired_get' g2' e2
    have hin : i < n := by omega
    have er : T'.getD i [] = row := by rw [List.getD_eq_getElem?_getD, gr]; rfl
    have el : (leftsOf T').getD i [] = lrow := by rw [List.getD_eq_getElem?_getD, gl]; rfl
    have eS := stepsOf_row hG hin
    rw [er, el] at eS
    have hrl := hF.row i row gr
    have hll : lrow.length = k := by
      have := hG.ordd.left_eq hin
      rw [el] at this
      rw [this]
      simp
    have eA := e.trans eT
    refine ⟨T0, [.ref b, .ref b'], rfl, SqT.of upd_same, rfl, _, _, rfl, _, _, rfl, rfl, rfl, ?_⟩
    refine ⟨_, rfl, b, _, rfl, .inr (SqT.of (eA.tup hb)), fun L1 hL1 => ?_⟩
    have e3 := Ext.new (P := P) (w := w) (tb := tb) (C := CM K) (o := .lst (nvs row)) hL1
    refine ⟨_, rfl, b', _, rfl, .inr (SqT.of ((eA.trans e3).tup hb')), fun L2 hL2 => ?_⟩
    have e4 := Ext.new (P := P) (w := w) (tb := tb) (C := CM K) (o := .lst (nvs lrow)) hL2
    refine ⟨L1, L2, _, _, rfl, rfl, e4.lst upd_same, upd_same, by rw [nvs_len, nvs_len]; exact Nat.le_of_lt (line_of (by omega)), fun p hp2 => ?_⟩
    have e5 := Ext.new (P := P) (w := w) (tb := tb) (C := CM K) (o := .lst (nvs row ++ nvs lrow)) hp2
    have eB := ((eT.trans e3).trans e4).trans e5
    have hD5 := eB.lst hv
    have hpD : p ≠ D := by
      have hD4 := ((eT.trans e3).trans e4).lst hv
      exact (ne_of_none hD4 hp2).symm
    refine ⟨vs, hD5, line_of (by rw [paired_len hp, List.length_take]; omega), (e.trans eB).mut nD hD5 rfl, vs ++ [.ref p], upd_same, ?_⟩
    rw [List.take_succ, eS]
    refine paired_app (Paired.mapP hp fun v l z => ?_) (.cons ⟨p, rfl, hpD, ?_⟩ .nil)
    · obtain ⟨a, h3, h4, h5⟩ := z
      exact ⟨a, h3, h4, by rw [upd_ne h4]; exact eB.lst h5⟩
    · rw [upd_ne hpD, upd_same]
      unfold nvs
      rw [List.map_append]
  · refine q H' D e ⟨vs, hv, ?_⟩
    rw [hrn, ← hSl, List.take_length] at hp
    exact Paired.mapP hp fun v l ⟨a, h3, _, h5⟩ => ⟨a, h3, h5⟩
theorem paired_snoc {α β : Type} {R : α → β → Prop} {xs : List α} {ys : List β} {y : β} (h : Paired R xs (ys ++ [y])) : ∃ xs0 x, xs = xs0 ++ [x] ∧ Paired R xs0 ys ∧ R x y := by
  induction ys generalizing xs with
  | nil =>
    cases h with
    | cons r t =>
      cases t
      exact ⟨[], _, rfl, .nil, r⟩
  | cons z ys ih =>
    cases h with
    | cons r t =>
      obtain ⟨x0, x, e, h1, h2⟩ := ih t
      exact ⟨_ :: x0, x, by rw [e]; rfl, .cons r h1, h2⟩
theorem eqv_nil (Ts : List (List Nat)) : PyData.eqv (.list (Ts.map dT)) (.list []) = decide (Ts = []) := by
  cases Ts with
  | nil => simp [PyData.eqv, PyData.eqvAll]
  | cons a r => simp [PyData.eqv, PyData.eqvAll]
def prL (ps : List (Nat × Nat)) : List (List Nat) := ps.map fun p => [p.1, p.2]
theorem pr_tups {H : Hp} {vs : List V} {ps : List (Nat × Nat)} (h : Paired (PairTup H) vs ps) : Paired (IntTup H) vs (prL ps) := by
  induction h with
  | nil => exact .nil
  | cons r t ih => exact .cons r ih
/-- closed's two lists -/
structure CdH (P : Program) (w : World) (tb : Tbs) (C : Addr) (H0 H : Hp) (ra qa : Addr) (r : List Nat) (vq : List V) (rest : List (Nat × Nat)) : Prop where
  e : Ext P w tb C H0 H
  r : H ra = some (.lst (nvs r))
  q : H qa = some (.lst vq)
  p : Paired (PairTup H) vq rest
  nr : Nw H0 ra
  nq : Nw H0 qa
  ne : ra ≠ qa
theorem CdH.ext {C : Addr} {H0 H H' : Hp} {ra qa : Addr} {r : List Nat} {vq : List V} {rest : List (Nat × Nat)} (h : CdH P w tb C H0 H ra qa r vq rest) (e : Ext P w tb C H H') : CdH P w tb C H0 H' ra qa r vq rest :=
  ⟨h.e.trans e, e.lst h.r, e.lst h.q, Paired.mapP h.p fun _ _ z => z.ext e, h.nr, h.nq, h.ne⟩
theorem CdH.roots {C : Addr} {H0 H : Hp} {ra qa : Addr} {r r' : List Nat} {vq : List V} {rest : List (Nat × Nat)} (h : CdH P w tb C H0 H ra qa r vq rest) : CdH P w tb C H0 (upd H ra (.lst (nvs r'))) ra qa r' vq rest :=
  ⟨h.e.mut h.nr h.r rfl, upd_same, by rw [upd_ne h.ne.symm]; exact h.q, Paired.mapP h.p fun _ _ z => z.mono (tup_upd h.r rfl), h.nr, h.nq, h.ne⟩
theorem CdH.rest {C : Addr} {H0 H : Hp} {ra qa : Addr} {r : List Nat} {vq vq' : List V} {rest rest' : List (Nat × Nat)} (h : CdH P w tb C H0 H ra qa r vq rest) (hp : Paired (PairTup H) vq' rest') : CdH P w tb C H0 (upd H qa (.lst vq')) ra qa r vq' rest' :=
  ⟨h.e.mut h.nq h.q rfl, by rw [upd_ne h.ne]; exact h.r, upd_same, Paired.mapP hp fun _ _ z => z.mono (tup_upd h.q rfl), h.nr, h.nq, h.ne⟩
theorem Ext.add {C : Addr} {H H' : Hp} {p : Addr} {ts : List Addr} {zs : List V} (k : ∀ c o, H c = some o → H' c = some o) (off : ∀ c, c ≠ p → c ∉ ts → H' c = H c) (hp : H' p = some (.lst zs)) (ht : ∀ t ∈ ts, ∃ x y, H' t = some (.tup [x, y])) : Ext P w tb C H H' := by
  have old : ∀ {m dx r tt l d}, H' m = some (.ins C dx (mflds r tt l d)) → H m = some (.ins C dx (mflds r tt l d)) := fun {m dx r tt l d} h => by
    by_cases e1 : m = p
    · subst e1
      rw [hp] at h
      cases h
    · by_cases e2 : m ∈ ts
      · obtain ⟨x, y, e3⟩ := ht m e2
        rw [e3] at h
        cases h
      · rw [off m e1 e2] at h
        exact h
  refine Ext.ofN (LamX.ExtN.of k) fun ok => ⟨ok.tab.ext k, fun m1 m2 dx1 dx2 r1 r2 t1 t2 l1 l2 d h1 h2 => ok.sep m1 m2 dx1 dx2 r1 r2 t1 t2 l1 l2 d (old h1) (old h2), fun m dx r tt l d h => ?_⟩
  obtain ⟨es, h3⟩ := ok.dm m dx r tt l d (old h)
  exact ⟨es, k d _ h3⟩
def spClosed (P : Program) (w : World) (tb : Tbs) (K : PySem.W.Frag) : Sp := fun vs H Q _ => ∃ (sa pa : Addr) (S : Tab) (n wd : Nat) (vp : List V) (P0 : List (Nat × Nat)), vs = [.ref sa, .ref pa] ∧ StepsAt H sa S ∧ SForm S n wd ∧ n ≤ 2000 ∧ wd ≤ 12 ∧ H pa = some (.lst vp) ∧ Paired (PairTup H) vp P0 ∧ P0.length ≤ 1000 ∧ (∀ p ∈ P0, p.1 < n ∧ p.2 < n) ∧
  ∀ H' p r, Ext P w tb (CM K) H H' → ClI S n wd P0 r [] → H' p = some (.tup (nvs ((List.range n).map (rt r)))) → Q (.ref p) H'
theorem sc_d_closed : FnScope ["steps", "pairs", "roots", "rest", "one", "other"] ["steps", "pairs"] d_closed.scope := ⟨rfl, rfl, rfl, by decide +kernel, rfl, by decide +kernel, by decide +kernel⟩
theorem go_closed (T : Txt K mg) : Go P w K mg base "closed" ["steps", "pairs"] 3 (spClosed P w tb K) := by
  obtain ⟨fd, F⟩ := T.fn 23
  obtain ⟨f_told_classes, fd_told_classes, m_told_classes, k_told_classes, b_told_classes, G_told_classes⟩ := go_told_classes (P := P) (w := w) (base := base) (tb := tb) T
  obtain ⟨f_joined_with, fd_joined_with, m_joined_with, k_joined_with, b_joined_with, G_joined_with⟩ := go_joined_with (P := P) (w := w) (base := base)  T
  refine ⟨_, fd, T.g_closed, F.kp, F.bindsN (fun _ _ _ _ _ _ us hl => match us, hl with | [_, _], _ => rfl), okN F sc_d_closed (fun vs H Q E h => by
    obtain ⟨_, _, _, _, _, _, _, rfl, _⟩ := h
    rfl) (fun cdv A outer s H vs Q E rm h => ?_)⟩
  obtain ⟨sa, pa, S, n, wd, vp, P0, rfl, hS, hF, hn, hw, hpa, hpp, hpl, hpn, q⟩ := h
  refine ⟨_, (pss_cons (ps_par (i := 2) (j := 3) (by rfl) sc_d_closed.nd rfl rfl (by decide) rfl rfl (pa_cons (pe_listRg rfl rfl T.n_list (prg_1 rfl T.n_range (pe_callB call_len_seq (by rfl) T.n_len boot_len (pa_cons (pv 0) pa_nil)))) (pa_cons (pe_callTy call_list_of (by rfl) T.n_list boot_list (pa_cons (pv 1) pa_nil)) pa_nil)) (by rfl))
      (pss_cons (ps_while PassesOwn.never (pt_cmpR (op_neD rm.units) (pv 3) (pe_lst pa_nil) (nomark _)) (pss_cons (ps_asg (pe_bm0 PySem.F.plainAttrs_list PySem.F.slot_list_pop PySem.F.type_list_pop mt_pop (pv 3)) (pg_tup (n := 2) rfl (pgs_cons (pg_name (i := 4) sc_d_closed.nd rfl (Or.inl rfl)) (pgs_cons (pg_name (i := 5) sc_d_closed.nd rfl (Or.inl rfl)) pgs_nil))))
      (pss_one (ps_if (pt_cmpR (op_notN) (pe_call G_joined_with (rm.mono (by decide)) rfl m_joined_with k_joined_with b_joined_with .nil pass0 (pa_cons (pv 2) (pa_cons (pv 4) (pa_cons (pv 5) pa_nil)))) pe_non (nomark _)) (pss_one (ps_expr (pe_bm PySem.F.plainAttrs_list PySem.F.slot_list_extend PySem.F.type_list_extend mt_extend (pv 3) (pa_cons (pe_listZip rfl rfl T.n_list rfl T.n_zip (pa_cons (pe_ix ix_list (pv 0) (pv 4) (fun _ _ => rfl)) (pa_cons (pe_ix ix_list (pv 0) (pv 5) (fun _ _ => rfl)) pa_nil))) pa_nil)))) pss_nil))))
      (pss_one (ps_ret (pe_call G_told_classes (rm.mono (by decide)) rfl m_told_classes k_told_classes b_told_classes .nil pass0 (pa_cons (pv 2) pa_nil)))))), ?_⟩
  obtain ⟨sv, hs1, hs2⟩ := hS
  have hsl : sv.length = n := by rw [paired_len hs2, hF.len]
  refine ⟨_, rfl, sa, _, rfl, .inl (SqL.of hs1), (sv.length : Int), rfl, ⟨by omega, by omega, by omega, by omega, by rw [hsl]; show ((n : Int) - 0).toNat ≤ 2 ^ 24; omega⟩, fun ra hra => ?_⟩
  have e1 := Ext.new (P := P) (w := w) (tb := tb) (C := CM K) (o := .lst (rgV 0 (sv.length : Int))) hra
  refine ⟨_, rfl, pa, _, rfl, .inl (SqL.of (e1.lst hpa)), fun qa hqa => ⟨_, _, rfl, ?_⟩⟩
  have e2 := Ext.new (P := P) (w := w) (tb := tb) (C := CM K) (o := .lst vp) hqa
  have hrv : rgV 0 (sv.length : Int) = nvs (List.range n) := by
    unfold rgV nvs
    rw [hsl, Int.sub_zero, Int.toNat_natCast]
    refine List.map_congr_left fun i _ => ?_
    show V.int (0 + (i : Int)) = _
    rw [Int.zero_add] <;> rfl
  rw [hrv] at e1 e2 hqa ⊢
  have hrq : ra ≠ qa := ne_of_none upd_same hqa
  have C0 : CdH P w tb (CM K) H (upd (upd H ra (.lst (nvs (List.range n)))) qa (.lst vp)) ra qa (List.range n) vp P0 :=
    ⟨e1.trans e2, e2.lst upd_same, upd_same, Paired.mapP hpp fun _ _ z => (z.ext e1).ext e2, .of hra, e1.nw hqa, hrq⟩
  have hm0 : nroots (List.range n) n * (wd + 1) + P0.length ≤ 27000 := by
    have := Nat.mul_le_mul (nroots_le (List.range n) n) (Nat.le_refl (wd + 1))
    have : n * (wd + 1) ≤ 2000 * 13 := Nat.mul_le_mul hn (by omega)
    omega
  refine ⟨fun m σ H' => ∃ r vq rest y4 y5, σ = [some (.ref sa), some (.ref pa), some (.ref ra), some (.ref qa), y4, y5] ∧ CdH P w tb (CM K) H H' ra qa r vq rest ∧ ClI S n wd P0 r rest ∧ m = nroots r n * (wd + 1) + rest.length ∧ m ≤ 27000, ⟨_, _, _, _, _, _, rfl, C0, ClI.start hpn, rfl, hm0⟩, fun m σ H' hW => ?_⟩
  obtain ⟨r, vq, rest, y4, y5, rfl, D, I, hm, hmb⟩ := hW
  refine ⟨_, rfl, (by show 0 ≤ sizeLine; decide), fun z hz => ?_⟩
  have ez := Ext.new (P := P) (w := w) (tb := tb) (C := CM K) (o := .lst []) hz
  have D1 := D.ext ez
  refine ⟨.list ((prL rest).map dT), .list [], dp_lT (SqL.of D1.q) (pr_tups D1.p), .lst (SqL.of upd_same) .nil, lT_shaped _, rfl, _, rfl, ?_⟩
  rw [eqv_nil]
  refine ite2 (fun hne => ?_) fun hemp => ?_
  · have hne' : rest ≠ [] := fun e0 => by
      rw [e0] at hne
      simp [prL] at hne
    obtain ⟨r0, p, rfl⟩ : ∃ r0 p, rest = r0 ++ [p] := ⟨rest.dropLast, rest.getLast hne', (List.dropLast_concat_getLast hne').symm⟩
    obtain ⟨v0, v, rfl, hp0, t, rfl, ht⟩ := paired_snoc D1.p
    obtain ⟨pb1, pb2⟩ := I.rb p (by simp)
    refine ⟨fun σ' H'' => ∃ m', m' < m ∧ (∃ r vq rest y4 y5, σ' = [some (.ref sa), some (.ref pa), some (.ref ra), some (.ref qa), y4, y5] ∧ CdH P w tb (CM K) H H'' ra qa r vq rest ∧ ClI S n wd P0 r rest ∧ m' = nroots r n * (wd + 1) + rest.length ∧ m' ≤ 27000), fun σ' H'' h => h, ?_⟩
    have D2 := D1.rest hp0
    have ht2 := (tup_upd (o := .lst v0) D1.q rfl) _ _ ht
    refine ⟨_, rfl, .inl ⟨rfl, _, SqL.of D1.q⟩, qa, _, .ref t, rfl, rfl, D1.q, by simp, ?_⟩
    rw [show (v0 ++ [V.ref t]).dropLast = v0 by simp]
    refine ⟨t, _, rfl, SqT.of ht2, rfl, _, _, rfl, _, [], rfl, rfl, ?_⟩
    refine ⟨_, rfl, _, rfl, _, rfl, ra, r, n, p.1, p.2, rfl, D2.r, I.uf, pb1, pb2, fun heq r' U' s' => ?_, fun hneq r' t2 U' hj hroots ht2' => ?_⟩
    · refine ⟨rfl, _, rfl, iteF rfl ?_⟩
      have hr' : nroots r' n = nroots r n := nroots_congr s'
      exact ⟨nroots r' n * (wd + 1) + r0.length, by rw [hr', hm, List.length_append]; simp, r', v0, r0, _, _, rfl, D2.roots, I.same U' s' heq hF hpn, rfl, by rw [hr']; simp at hm; omega⟩
    · refine ⟨rfl, _, rfl, iteT rfl ?_⟩
      have D3 : CdH P w tb (CM K) H (upd (upd (upd (upd H' z (.lst [])) qa (.lst v0)) ra (.lst (nvs r'))) t2 (.tup [nv (rt r p.1), nv (rt r p.2)])) ra qa r' v0 r0 := D2.roots.ext (.new ht2')
      have hs13 := D3.e.lst hs1
      obtain ⟨l1, gl1⟩ : ∃ l1, S[p.1]? = some l1 := ⟨_, List.getElem?_eq_getElem (by rw [hF.len]; exact pb1)⟩
      obtain ⟨l2, gl2⟩ : ∃ l2, S[p.2]? = some l2 := ⟨_, List.getElem?_eq_getElem (by rw [hF.len]; exact pb2)⟩
      obtain ⟨x1, gx1, a1, rfl, ha1⟩ := paired_get hs2 gl1
      obtain ⟨x2, gx2, a2, rfl, ha2⟩ := paired_get hs2 gl2
      have k1 := hF.row _ _ gl1
      have k2 := hF.row _ _ gl2
      refine ⟨_, rfl, .inl ⟨rfl, _, SqL.of D3.q⟩, ?_⟩
      refine ⟨_, rfl, _, rfl, _, _, _, _, rfl, rfl, SqL.of hs13, atI_nat gx1, _, rfl, _, rfl, _, _, _, _, rfl, rfl, SqL.of hs13, atI_nat gx2, ?_⟩
      refine ⟨a1, a2, nvs l1, nvs l2, rfl, SqL.of (D3.e.lst ha1), SqL.of (D3.e.lst ha2), by rw [nvs_len, nvs_len, k1, k2], fun H5 pz ts kp npz nts hpts off hpz htl htup => ?_⟩
      rw [nvs_len, k1] at htl
      have e5 : Ext P w tb (CM K) _ H5 := Ext.add kp off hpz fun t3 ht3 => by
        obtain ⟨i, hi⟩ := List.mem_iff_getElem?.mp ht3
        have hil : i < wd := by rw [← htl]; exact (List.getElem?_eq_some_iff.mp hi).1
        exact ⟨_, _, htup i t3 _ _ hi (by rw [nvs_get, List.getElem?_eq_getElem (by omega : i < l1.length)]; rfl) (by rw [nvs_get, List.getElem?_eq_getElem (by omega : i < l2.length)]; rfl)⟩
      have D5 := D3.ext e5
      have hst : ∀ (x i : Nat) (l : List Nat), S[x]? = some l → l.length = wd → i < wd → l[i]? = some (step S x i) := fun x i l gl kl hi => by
        unfold step
        rw [List.getD_eq_getElem?_getD, List.getD_eq_getElem?_getD, gl, Option.getD_some, List.getElem?_eq_getElem (by omega : i < l.length)] <;> rfl
      have hnew : Paired (PairTup H5) (ts.map V.ref) ((List.range wd).map fun j => (step S p.1 j, step S p.2 j)) := paired_of (by simp [htl]) fun i y x hy hx => by
        rw [List.getElem?_map] at hy hx
        obtain ⟨t3, ht3, rfl⟩ := Option.map_eq_some_iff.mp hy
        obtain ⟨i', hi', rfl⟩ := Option.map_eq_some_iff.mp hx
        have hil : i < wd := by rw [← htl]; exact (List.getElem?_eq_some_iff.mp ht3).1
        rw [List.getElem?_range hil] at hi'
        cases hi'
        exact ⟨t3, rfl, htup i t3 _ _ ht3 (by rw [nvs_get, hst _ _ _ gl1 k1 hil]; rfl) (by rw [nvs_get, hst _ _ _ gl2 k2 hil]; rfl)⟩
      have I5 := I.join U' (fun x y hx hy => UF.eqv2 hj hx hy) hF hpn
      have hmul : (nroots r' n + 1) * (wd + 1) ≤ nroots r n * (wd + 1) := Nat.mul_le_mul_right _ hroots
      rw [Nat.add_mul, Nat.one_mul] at hmul
      have hv0 : v0.length = r0.length := paired_len hp0
      simp only [List.length_append, List.length_singleton] at hm
      refine ⟨qa, pz, _, _, rfl, rfl, D5.q, hpz, ?_, ?_⟩
      · rw [List.length_map, htl, hv0]
        exact Nat.le_of_lt (line_of (by omega))
      · refine ⟨nroots r' n * (wd + 1) + (r0 ++ (List.range wd).map fun j => (step S p.1 j, step S p.2 j)).length, ?_, r', _, _, _, _, rfl, D5.rest (paired_app D5.p hnew), I5, rfl, ?_⟩
        · rw [List.length_append, List.length_map, List.length_range]
          omega
        · rw [List.length_append, List.length_map, List.length_range]
          omega
  · have hemp' : rest = [] := by
      simp [prL] at hemp
      exact hemp
    subst hemp'
    refine ⟨_, rfl, ra, r, n, H, rfl, D1.r, I.uf, by omega, D1.e, D1.nr, fun H5 p e5 hp5 => q H5 p r e5 I hp5⟩
end
end K95
set_option Elab.async false
set_option linter.all false
set_option maxRecDepth 100000
set_option maxHeartbeats 4000000
set_option autoImplicit false
namespace K95
open PySem PySem.Spec PyProof.Rows L2
section
variable {P : Program} {w : World} {K : PySem.W.Frag} {mg : Str → Option Value} {base : Heap} {tb : Tbs}
theorem rg_nvs (n : Nat) : rgV 0 (n : Int) = nvs (List.range n) := by
  unfold rgV nvs
  rw [Int.sub_zero, Int.toNat_natCast]
  refine List.map_congr_left fun i _ => ?_
  show V.int (0 + (i : Int)) = _
  rw [Int.zero_add] <;> rfl
def spJoinedC (P : Program) (w : World) (tb : Tbs) (K : PySem.W.Frag) : Sp := fun vs H Q _ => ∃ (v1 v2 : V) (l1 l2 : List Nat) (n : Nat), vs = [v1, v2] ∧ IntTup H v1 l1 ∧ IntTup H v2 l2 ∧ l1.length = n ∧ l2.length = n ∧ n ≤ 2000 ∧ (∀ x ∈ l1, x < n) ∧ (∀ x ∈ l2, x < n) ∧
  ∀ H' p r, Ext P w tb (CM K) H H' → JI n (prs l1 ++ prs l2) r → H' p = some (.tup (nvs ((List.range n).map (rt r)))) → Q (.ref p) H'
theorem sc_d_joined_classes : FnScope ["one", "other", "roots", "classes", "number", "least"] ["one", "other"] d_joined_classes.scope := ⟨rfl, rfl, rfl, by decide +kernel, rfl, by decide +kernel, by decide +kernel⟩
theorem go_joined_classes (T : Txt K mg) : Go P w K mg base "joined_classes" ["one", "other"] 3 (spJoinedC P w tb K) := by
  obtain ⟨fd, F⟩ := T.fn 27
  obtain ⟨f_told_classes, fd_told_classes, m_told_classes, k_told_classes, b_told_classes, G_told_classes⟩ := go_told_classes (P := P) (w := w) (base := base) (tb := tb) T
  obtain ⟨f_joined_with, fd_joined_with, m_joined_with, k_joined_with, b_joined_with, G_joined_with⟩ := go_joined_with (P := P) (w := w) (base := base)  T
  refine ⟨_, fd, T.g_joined_classes, F.kp, F.bindsN (fun _ _ _ _ _ _ us hl => match us, hl with | [_, _], _ => rfl), okN F sc_d_joined_classes (fun vs H Q E h => by
    obtain ⟨_, _, _, _, _, rfl, _⟩ := h
    rfl) (fun cdv A outer s H vs Q E rm h => ?_)⟩
  obtain ⟨v1, v2, l1, l2, n, rfl, ⟨a1, rfl, h1⟩, ⟨a2, rfl, h2⟩, hl1, hl2, hn, hb1, hb2, q⟩ := h
  refine ⟨_, (pss_cons (ps_set (i := 2) sc_d_joined_classes.nd rfl (Or.inl rfl) (pe_listRg rfl rfl T.n_list (prg_1 rfl T.n_range (pe_callB call_len_seq (by rfl) T.n_len boot_len (pa_cons (pv 0) pa_nil)))))
      (pss_cons (ps_for PassesOwn.never rfl (pi_tup (pe_tup (pa_cons (pv 0) (pa_cons (pv 1) pa_nil)))) (pg_name (i := 3) sc_d_joined_classes.nd rfl (Or.inl rfl))
      (pss_one (ps_for PassesOwn.never rfl (pi_enumA (by rfl) T.n_enumerate (pa_cons (pv 3) pa_nil)) (pg_tup (n := 2) rfl (pgs_cons (pg_name (i := 4) sc_d_joined_classes.nd rfl (Or.inl rfl)) (pgs_cons (pg_name (i := 5) sc_d_joined_classes.nd rfl (Or.inl rfl)) pgs_nil)))
      (pss_one (ps_expr (pe_call G_joined_with (rm.mono (by decide)) rfl m_joined_with k_joined_with b_joined_with .nil pass0 (pa_cons (pv 2) (pa_cons (pv 4) (pa_cons (pv 5) pa_nil)))))))))
      (pss_one (ps_ret (pe_call G_told_classes (rm.mono (by decide)) rfl m_told_classes k_told_classes b_told_classes .nil pass0 (pa_cons (pv 2) pa_nil)))))), ?_⟩
  refine ⟨_, rfl, a1, _, rfl, .inr (SqT.of h1), ((nvs l1).length : Int), rfl, ⟨by omega, by omega, by omega, by rw [nvs_len]; omega, by rw [nvs_len]; omega⟩, fun ra hra => ?_⟩
  rw [nvs_len, hl1, rg_nvs]
  have e1 := Ext.new (P := P) (w := w) (tb := tb) (C := CM K) (o := .lst (nvs (List.range n))) hra
  refine ⟨_, rfl, _, rfl, (by show 2 ≤ sizeLine; decide), fun t ht => ?_⟩
  have e2 := Ext.new (P := P) (w := w) (tb := tb) (C := CM K) (o := .tup [.ref a1, .ref a2]) ht
  have hb : ∀ q ∈ prs l1 ++ prs l2, q.1 < n ∧ q.2 < n := fun q hq => by
    rcases List.mem_append.mp hq with h | h
    · have := prs_mem h
      exact ⟨by rw [← hl1]; exact (List.getElem?_eq_some_iff.mp this).1, hb1 _ (List.mem_of_getElem? this)⟩
    · have := prs_mem h
      exact ⟨by rw [← hl2]; exact (List.getElem?_eq_some_iff.mp this).1, hb2 _ (List.mem_of_getElem? this)⟩
  -- the rows of the two, joined from J0 on
  refine ⟨t, rfl, ⟨_, SqT.of upd_same⟩, for_it (walk_tup (xs := [V.ref a1, V.ref a2])) (fun i σ H' => ∃ r y3 y4 y5, σ = [some (.ref a1), some (.ref a2), some (.ref ra), y3, y4, y5] ∧ Ext P w tb (CM K) H H' ∧ H' t = some (.tup [.ref a1, .ref a2]) ∧ H' ra = some (.lst (nvs r)) ∧ JI n ((if 0 < i then prs l1 else []) ++ (if 1 < i then prs l2 else [])) r)
    ⟨_, _, _, _, rfl, e1.trans e2, upd_same, e2.lst upd_same, JI.start n⟩ (fun i σ H' _ ⟨_, _, _, _, _, _, h, _⟩ => SqT.of h) (fun i x σ H' H6 hi ⟨r, y3, y4, y5, es, e, ht', hr, J⟩ hy => ?_) fun σ H' ⟨r, y3, y4, y5, es, e, ht', hr, J⟩ => ?_⟩
  · obtain ⟨rfl, hx⟩ := hy
    subst es
    have nra : Nw H ra := .of hra
    obtain ⟨a, l, J0, ha, hl, rfl, hJb, eJ0, eJ1⟩ : ∃ (a : Addr) (l : List Nat) (J0 : List (Nat × Nat)), H a = some (.tup (nvs l)) ∧ l.length = n ∧ x = .ref a ∧ (∀ q ∈ J0 ++ prs l, q.1 < n ∧ q.2 < n) ∧ ((if 0 < i then prs l1 else []) ++ (if 1 < i then prs l2 else [])) = J0 ∧ ((if 0 < i + 1 then prs l1 else []) ++ (if 1 < i + 1 then prs l2 else [])) = J0 ++ prs l := by
      have hi2 : i = 0 ∨ i = 1 := by
        have : i < 2 := hi
        omega
      rcases hi2 with rfl | rfl
      · exact ⟨a1, l1, [], h1, hl1, (Option.some.inj hx).symm, fun q hq => hb q (List.mem_append_left _ (by simpa using hq)), by simp, by simp⟩
      · exact ⟨a2, l2, prs l1, h2, hl2, (Option.some.inj hx).symm, hb, by simp, by simp⟩
    rw [eJ0] at J
    rw [eJ1]
    refine ⟨_, rfl, en_for (.inl (e.tup ha)) (fun j σ H' => ∃ r' y4 y5, σ = [some (.ref a1), some (.ref a2), some (.ref ra), some (.ref a), y4, y5] ∧ Ext P w tb (CM K) H H' ∧ H' t = some (.tup [.ref a1, .ref a2]) ∧ H' ra = some (.lst (nvs r')) ∧ JI n (J0 ++ prs (l.take j)) r')
      ⟨r, y4, y5, rfl, e, ht', hr, by simpa [prs] using J⟩ (fun j σ H' ⟨_, _, _, _, e', _⟩ => by rw [e'.tup ha, e.tup ha]) (fun j σ H' T2 x hx ⟨r', y4, y5, es, e', ht'', hr', J'⟩ hT => ?_) fun σ H' ⟨r', y4, y5, es, e', ht'', hr', J'⟩ => ?_⟩
    · subst es
      rw [nvs_get] at hx
      obtain ⟨z, hz, rfl⟩ := Option.map_eq_some_iff.mp hx
      have eT := Ext.new (P := P) (w := w) (tb := tb) (C := CM K) (o := .tup [nv j, nv z]) hT
      have hjl : j < l.length := (List.getElem?_eq_some_iff.mp hz).1
      have htk : prs (l.take (j + 1)) = prs (l.take j) ++ [(j, z)] := by
        rw [List.take_succ, hz]
        show prs (l.take j ++ [z]) = _
        rw [prs_snoc, List.length_take, Nat.min_eq_left (Nat.le_of_lt hjl)]
      have hbz := hJb (j, z) (List.mem_append_right _ (prs_of hz))
      have hJs : ∀ q ∈ (J0 ++ prs (l.take j)) ++ [(j, z)], q.1 < n ∧ q.2 < n := fun q hq => by
        rcases List.mem_append.mp hq with h | h
        · rcases List.mem_append.mp h with h | h
          · exact hJb q (List.mem_append_left _ h)
          · have := prs_mem h
            refine hJb q (List.mem_append_right _ ?_)
            have h9 : l[q.1]? = some q.2 := by
              rw [List.getElem?_take] at this
              split at this
              · exact this
              · cases this
            exact prs_of h9
        · rw [List.mem_singleton.mp h]
          exact hbz
      have e2 := e'.trans eT
      rw [htk, ← List.append_assoc]
      refine ⟨_, rfl, _, rfl, _, rfl, ra, r', n, j, z, rfl, eT.lst hr', J'.uf, hbz.1, hbz.2, fun heq r2 U2 s2 => ?_, fun hneq r2 t2 U2 hj hroots ht2 => ?_⟩
      · exact ⟨r2, _, _, rfl, e2.mut nra (eT.lst hr') rfl, (tup_upd (eT.lst hr') rfl) _ _ (eT.tup ht''), upd_same, J'.same U2 s2 heq hJs⟩
      · have e3 := e2.mut (o := .lst (nvs r2)) nra (eT.lst hr') rfl
        have e4 := Ext.new (P := P) (w := w) (tb := tb) (C := CM K) (o := .tup [nv (rt r' j), nv (rt r' z)]) ht2
        exact ⟨r2, _, _, rfl, e3.trans e4, e4.tup ((tup_upd (eT.lst hr') rfl) _ _ (eT.tup ht'')), e4.lst upd_same, J'.join U2 (fun x y hx hy => UF.eqv2 hj hx hy) hJs⟩
    · subst es
      rw [nvs_len, List.take_length] at J'
      exact ⟨r', _, _, _, rfl, e', ht'', hr', J'⟩
  · subst es
    exact ⟨_, rfl, ra, r, n, H, rfl, hr, J.uf, by omega, e, .of hra, fun H5 p e5 hp5 => q H5 p r e5 (by simpa using J) hp5⟩
end
end K95
set_option Elab.async false
set_option linter.all false
set_option maxRecDepth 100000
set_option maxHeartbeats 4000000
set_option autoImplicit false
namespace K95
open PySem PySem.Spec PyProof.Rows L2
section
variable {P : Program} {w : World} {K : PySem.W.Frag} {mg : Str → Option Value} {base : Heap} {tb : Tbs}
theorem cong_get {S : Tab} {n w : Nat} {ρ : List Nat} (C : CongT S n w ρ) {i : Nat} (hi : i < n) : ρ[i]? = some (at_ ρ i) := by
  have : i < ρ.length := by rw [C.len]; exact hi
  unfold at_
  rw [List.getD_eq_getElem?_getD, List.getElem?_eq_getElem this] <;> rfl
theorem cong_lt {S : Tab} {n w : Nat} {ρ : List Nat} (C : CongT S n w ρ) {i : Nat} (hi : i < n) : at_ ρ i < n := by
  have := (C.rep i hi).1
  omega
theorem cong_mem {S : Tab} {n w : Nat} {ρ : List Nat} (C : CongT S n w ρ) : ∀ x ∈ ρ, x < n := fun x hx => by
  obtain ⟨i, hi⟩ := List.mem_iff_getElem?.mp hx
  have hin : i < n := by rw [← C.len]; exact (List.getElem?_eq_some_iff.mp hi).1
  rw [cong_get C hin] at hi
  cases hi
  exact cong_lt C hin
def spIsCong (P : Program) (w : World) (tb : Tbs) (K : PySem.W.Frag) : Sp := fun vs H Q _ => ∃ (m : Addr) (v : V) (T : Tab) (n k : Nat) (ρ : List Nat), vs = [.ref m, v] ∧ Okk tb (CM K) H ∧ MonAt P w (CM K) H m T ∧ Good T n k ∧ IntTup H v ρ ∧ CongT (stepsOf T) n (2 * k) ρ ∧ ∀ H', Ext P w tb (CM K) H H' → Q (.bl true) H'
theorem sc_d_is_congruence : FnScope ["monoid", "thing", "one", "steps", "number", "least"] ["monoid", "thing"] d_is_congruence.scope := ⟨rfl, rfl, rfl, by decide +kernel, rfl, by decide +kernel, by decide +kernel⟩
theorem go_is_congruence (T : Txt K mg) : Go P w K mg base "is_congruence" ["monoid", "thing"] 3 (spIsCong P w tb K) := by
  obtain ⟨fd, F⟩ := T.fn 24
  obtain ⟨f_steps_by_letters, fd_steps_by_letters, m_steps_by_letters, k_steps_by_letters, b_steps_by_letters, G_steps_by_letters⟩ := go_steps_by_letters (P := P) (w := w) (base := base) (tb := tb) T
  obtain ⟨f_is_number_of, fd_is_number_of, m_is_number_of, k_is_number_of, b_is_number_of, G_is_number_of⟩ := go_is_number_of (P := P) (w := w) (base := base)  T
  obtain ⟨f_is_sequence, fd_is_sequence, m_is_sequence, k_is_sequence, b_is_sequence, G_is_sequence⟩ := go_is_sequence (P := P) (w := w) (base := base) (tb := tb) T
  obtain ⟨f_checked, fd_checked, m_checked, k_checked, b_checked, G_checked⟩ := go_checked (P := P) (w := w) (base := base)  T
  refine ⟨_, fd, T.g_is_congruence, F.kp, F.bindsN (fun _ _ _ _ _ _ us hl => match us, hl with | [_, _], _ => rfl), okN F sc_d_is_congruence (fun vs H Q E h => by
    obtain ⟨_, _, _, _, _, _, rfl, _⟩ := h
    rfl) (fun cdv A outer s H vs Q E rm h => ?_)⟩
  obtain ⟨m, v, T', n, k, ρ, rfl, ok, hM, hG, ⟨va, rfl, hva⟩, hC, q⟩ := h
  have hM' := hM
  obtain ⟨_, dx, r, t, l, d, hB, _⟩ := hM'
  obtain ⟨rs, a11, a12⟩ := hB.right
  have hlen := hG.form.len
  have hrn : rs.length = n := by rw [paired_len a12, hlen]
  have n2 := hG.form.n2
  have k2 := hG.form.k2
  have hρ := hC.len
  have hF := stepsOf_form hG
  refine ⟨_, (pss_cons (ps_expr (pe_call G_checked (rm.mono (by decide)) rfl m_checked k_checked b_checked .nil pass0 (pa_cons (pv 0) pa_nil)))
      (pss_cons (ps_if (PW.pt (pw_or (pt_not (pt_val (pe_call G_is_sequence (rm.mono (by decide)) rfl m_is_sequence k_is_sequence b_is_sequence .nil pass0 (pa_cons (pv 1) pa_nil)))) (pw_or1 (pt_cmpR (op_ne) (pe_callB call_len_seq (by rfl) T.n_len boot_len (pa_cons (pv 1) pa_nil)) (pe_callB call_len_seq (by rfl) T.n_len boot_len (pa_cons (pe_fld (pv 0) rfl) pa_nil)) (nomark _))))) (pss_one (ps_ret pe_bl)) pss_nil)
      (pss_cons (ps_if (pt_not (pt_val (pe_callB (cr_all rfl) (by rfl) T.n_all boot_all (pa_cons (pe_lc (own := [("one", 2)]) (g := gName 2) rfl sc_d_is_congruence.nd (pi_tup (pv 1)) (blkOk_by (N := ["monoid", "thing", "one", "steps", "number", "least"]) (sc := d_is_congruence.scope) (by decide +kernel)) (fun _ _ _ _ _ => (pg_name (i := 2) sc_d_is_congruence.nd rfl (Or.inl rfl))) (fun _ _ _ _ _ => pts_nil) (fun _ _ _ _ _ => pe_c (pe_call G_is_number_of (rm.mono (by decide)) rfl m_is_number_of k_is_number_of b_is_number_of .nil pass0 (pa_cons (pv 0) (pa_cons (pv 2) pa_nil))))) pa_nil)))) (pss_one (ps_ret pe_bl)) pss_nil)
      (pss_cons (ps_set (i := 3) sc_d_is_congruence.nd rfl (Or.inl rfl) (pe_call G_steps_by_letters (rm.mono (by decide)) rfl m_steps_by_letters k_steps_by_letters b_steps_by_letters .nil pass0 (pa_cons (pv 0) pa_nil)))
      (pss_cons (ps_for PassesOwn.never rfl (pi_enumA (by rfl) T.n_enumerate (pa_cons (pv 1) pa_nil)) (pg_tup (n := 2) rfl (pgs_cons (pg_name (i := 4) sc_d_is_congruence.nd rfl (Or.inl rfl)) (pgs_cons (pg_name (i := 5) sc_d_is_congruence.nd rfl (Or.inl rfl)) pgs_nil)))
      (pss_cons (ps_if (PW.pt (pw_or (pt_cmpR (op_gt) (pv 5) (pv 4) (nomark _)) (pw_or1 (pt_cmpR (op_ne) (pe_ix ix_tup (pv 1) (pv 5) (fun _ _ => rfl)) (pv 5) (nomark _))))) (pss_one (ps_ret pe_bl)) pss_nil)
      (pss_one (ps_if (pt_cmpR (op_neD rm.units) (pe_lc (own := [("one", 2)]) (g := gName 2) rfl sc_d_is_congruence.nd (pi_list (pe_ix ix_list (pv 3) (pv 4) (fun _ _ => rfl))) (blkOk_by (N := ["monoid", "thing", "one", "steps", "number", "least"]) (sc := d_is_congruence.scope) (by decide +kernel)) (fun _ _ _ _ _ => (pg_name (i := 2) sc_d_is_congruence.nd rfl (Or.inl rfl))) (fun _ _ _ _ _ => pts_nil) (fun _ _ _ _ _ => pe_c (pe_ix ix_tup (pv 1) (pv 2) (fun _ _ => rfl)))) (pe_lc (own := [("one", 2)]) (g := gName 2) rfl sc_d_is_congruence.nd (pi_list (pe_ix ix_list (pv 3) (pv 5) (fun _ _ => rfl))) (blkOk_by (N := ["monoid", "thing", "one", "steps", "number", "least"]) (sc := d_is_congruence.scope) (by decide +kernel)) (fun _ _ _ _ _ => (pg_name (i := 2) sc_d_is_congruence.nd rfl (Or.inl rfl))) (fun _ _ _ _ _ => pts_nil) (fun _ _ _ _ _ => pe_c (pe_ix ix_tup (pv 1) (pv 2) (fun _ _ => rfl)))) (nomark _)) (pss_one (ps_ret pe_bl)) pss_nil))))
      (pss_one (ps_ret pe_bl))))))), ?_⟩
  refine ⟨_, rfl, m, dx, _, rfl, hB.ob, ?_⟩
  refine ⟨_, rfl, _, _, rfl, ⟨va, rfl, .inl hva⟩, fun H1 e1 => ⟨true, rfl, iteF rfl ?_⟩⟩
  refine ⟨_, rfl, va, _, rfl, .inr (SqT.of (e1.tup hva)), _, rfl, _, _, dx, _, _, rfl, e1.ins hB.ob, T.cl, T.no_right, rfl, r, _, rfl, .inr (SqT.of (e1.tup a11)), rfl, _, rfl, iteF (by rw [nvs_len, hrn, hρ]; simp) ?_⟩
  refine ⟨_, rfl, lc_t (P := P) (w := w) (tb := tb) (C := CM K) (e1.tup hva) (fun _ _ y _ => y = .bl true) (fun D => stab_val fun _ => .bl true) (by rw [nvs_len]; omega) (fun _ => ?_) (fun D i x H5 acc hx5 e5 hD hac Qk qk => ?_) (fun D H5 ys hD e5 hy hl hr5 => ?_)⟩
  · rfl
  · rw [nvs_get] at hx5
    obtain ⟨o, ho, rfl⟩ := Option.map_eq_some_iff.mp hx5
    have ho' := cong_mem hC o (List.mem_of_getElem? ho)
    exact ⟨_, rfl, _, rfl, m, T', o, rfl, (e1.trans e5).mon ok m T' hM, by rw [hlen]; exact ho', qk _ _ (.refl _) rfl⟩
  · refine ⟨D, List.replicate ρ.length true, rfl, ?_, _, rfl, iteF (by simp) ?_⟩
    · have e6 := list_same (v := V.bl true) hl hr5
      rw [nvs_len] at e6
      rw [e6] at hy
      rw [List.map_replicate]
      exact SqL.of hy
    have eA := e1.trans e5
    refine ⟨_, rfl, m, T', n, k, rfl, eA.mon ok m T' hM, hG, fun H6 sa e6 hS => ?_⟩
    have eB := eA.trans e6
    have hva6 := eB.tup hva
    have hS6 := hS
    obtain ⟨sv, hs1, hs2⟩ := hS6
    refine ⟨_, rfl, en_for (.inl hva6) (fun i σ H' => ∃ y4 y5, σ = [some (.ref m), some (.ref va), none, some (.ref sa), y4, y5] ∧ Ext P w tb (CM K) H6 H') ⟨none, none, rfl, .refl _⟩ (fun i σ H' ⟨_, _, _, e⟩ => by rw [e.tup hva6, hva6]) (fun x σ H' T2 z hz ⟨y4, y5, es, e⟩ hT => ?_) fun σ H' ⟨y4, y5, es, e⟩ => q H' (eB.trans e)⟩
    subst es
    rw [nvs_get] at hz
    obtain ⟨o, ho, rfl⟩ := Option.map_eq_some_iff.mp hz
    have hx : x < n := by rw [← hρ]; exact (List.getElem?_eq_some_iff.mp ho).1
    have eo : o = at_ ρ x := by
      rw [cong_get hC hx] at ho
      exact (Option.some.inj ho).symm
    subst eo
    obtain ⟨c1, c2⟩ := hC.rep x hx
    have hox := cong_lt hC hx
    have eT := e.trans (Ext.new (P := P) (w := w) (tb := tb) (C := CM K) (o := .tup [nv x, nv (at_ ρ x)]) hT)
    refine ⟨_, rfl, _, rfl, _, _, rfl, rfl, _, rfl, iteF (decide_eq_false (by omega)) ?_⟩
    refine ⟨_, rfl, _, rfl, _, _, _, _, rfl, rfl, SqT.of (eT.tup hva6), atI_nat (v := nv (at_ ρ (at_ ρ x))) (by rw [nvs_get, cong_get hC hox]; rfl), _, rfl, rfl, _, rfl, iteF (by rw [c2]; simp) ?_⟩
    -- the two rows
    obtain ⟨l1, gl1⟩ : ∃ l1, (stepsOf T')[x]? = some l1 := ⟨_, List.getElem?_eq_getElem (by rw [hF.len]; exact hx)⟩
    obtain ⟨l2, gl2⟩ : ∃ l2, (stepsOf T')[at_ ρ x]? = some l2 := ⟨_, List.getElem?_eq_getElem (by rw [hF.len]; exact hox)⟩
    obtain ⟨x1, gx1, b1, rfl, hb1⟩ := paired_get hs2 gl1
    obtain ⟨x2, gx2, b2, rfl, hb2⟩ := paired_get hs2 gl2
    have kl1 := hF.row _ _ gl1
    have kl2 := hF.row _ _ gl2
    have hst : ∀ (x i : Nat) (l : List Nat), (stepsOf T')[x]? = some l → i < l.length → l[i]? = some (step (stepsOf T') x i) := fun x i l gl hi => by
      unfold step
      rw [List.getD_eq_getElem?_getD, List.getD_eq_getElem?_getD, gl, Option.getD_some, List.getElem?_eq_getElem hi] <;> rfl
    have hl1n : ∀ z ∈ l1, z < n := fun z hz => by
      obtain ⟨j, hj⟩ := List.mem_iff_getElem?.mp hz
      have hjl := (List.getElem?_eq_some_iff.mp hj).1
      rw [hst x j l1 gl1 hjl] at hj
      cases hj
      exact hF.ent x j hx (by omega)
    have hl2n : ∀ z ∈ l2, z < n := fun z hz => by
      obtain ⟨j, hj⟩ := List.mem_iff_getElem?.mp hz
      have hjl := (List.getElem?_eq_some_iff.mp hj).1
      rw [hst _ j l2 gl2 hjl] at hj
      cases hj
      exact hF.ent _ j hox (by omega)
    have heq : l1.map (at_ ρ) = l2.map (at_ ρ) := by
      refine List.ext_getElem? fun j => ?_
      rw [List.getElem?_map, List.getElem?_map]
      by_cases hj : j < 2 * k
      · rw [hst x j l1 gl1 (by omega), hst _ j l2 gl2 (by omega)]
        show some (at_ ρ _) = some (at_ ρ _)
        rw [hC.cl x (at_ ρ x) hx hox c2.symm j hj]
      · rw [List.getElem?_eq_none (by omega), List.getElem?_eq_none (by omega)]
    refine ⟨_, rfl, _, rfl, _, _, _, _, rfl, rfl, SqL.of (eT.lst hs1), atI_nat gx1, ?_⟩
    refine lc_l (P := P) (w := w) (tb := tb) (C := CM K) (eT.lst hb1) (fun _ j y _ => y = nv (at_ ρ (l1.getD j 0))) (fun D => stab_val fun j => nv (at_ ρ (l1.getD j 0))) (by rw [nvs_len]; omega) (fun _ => ?_) (fun D j z H7 ac hx7 e7 hD hac Qk qk => ?_) (fun D1 H7 ys1 hD1 e7 hy1 hl7 hr7 => ?_)
    · rfl
    · rw [nvs_get] at hx7
      obtain ⟨o', ho', rfl⟩ := Option.map_eq_some_iff.mp hx7
      have hon := hl1n o' (List.mem_of_getElem? ho')
      refine ⟨_, rfl, _, rfl, _, _, _, _, rfl, rfl, SqT.of ((eT.trans e7).tup hva6), atI_nat (v := nv (at_ ρ o')) (by rw [nvs_get, cong_get hC hon]; rfl), qk _ _ (.refl _) ?_⟩
      rw [List.getD_eq_getElem?_getD, ho'] <;> rfl
    · have ey1 : ys1 = nvs (l1.map (at_ ρ)) := nvs_map (by rw [hl7, nvs_len]) fun j y x hy hx => by
        rw [hr7 j y hy, List.getD_eq_getElem?_getD, hx] <;> rfl
      subst ey1
      have e7' := eT.trans e7
      refine ⟨_, rfl, _, rfl, _, _, _, _, rfl, rfl, SqL.of (e7'.lst hs1), atI_nat gx2, ?_⟩
      refine lc_l (P := P) (w := w) (tb := tb) (C := CM K) (e7'.lst hb2) (fun _ j y _ => y = nv (at_ ρ (l2.getD j 0))) (fun D => stab_val fun j => nv (at_ ρ (l2.getD j 0))) (by rw [nvs_len]; omega) (fun _ => ?_) (fun D j z H8 ac hx8 e8 hD hac Qk qk => ?_) (fun D2 H8 ys2 hD2 e8 hy2 hl8 hr8 => ?_)
      · rfl
      · rw [nvs_get] at hx8
        obtain ⟨o', ho', rfl⟩ := Option.map_eq_some_iff.mp hx8
        have hon := hl2n o' (List.mem_of_getElem? ho')
        refine ⟨_, rfl, _, rfl, _, _, _, _, rfl, rfl, SqT.of ((e7'.trans e8).tup hva6), atI_nat (v := nv (at_ ρ o')) (by rw [nvs_get, cong_get hC hon]; rfl), qk _ _ (.refl _) ?_⟩
        rw [List.getD_eq_getElem?_getD, ho'] <;> rfl
      · have ey2 : ys2 = nvs (l2.map (at_ ρ)) := nvs_map (by rw [hl8, nvs_len]) fun j y x hy hx => by
          rw [hr8 j y hy, List.getD_eq_getElem?_getD, hx] <;> rfl
        subst ey2
        refine ⟨_, _, dp_lst (SqL.of (e8.lst hy1)), dp_lst (SqL.of hy2), dL_shaped _, dL_shaped _, _, rfl, iteF ?_ ⟨_, _, rfl, e7'.trans e8⟩⟩
        rw [dL_eqv, heq]
        simp
def spCheckCong (P : Program) (w : World) (tb : Tbs) (K : PySem.W.Frag) : Sp := fun vs H Q _ => ∃ (m : Addr) (v : V) (T : Tab) (n k : Nat) (ρ : List Nat), vs = [.ref m, v] ∧ Okk tb (CM K) H ∧ MonAt P w (CM K) H m T ∧ Good T n k ∧ IntTup H v ρ ∧ CongT (stepsOf T) n (2 * k) ρ ∧ ∀ H', Ext P w tb (CM K) H H' → Q .non H'
theorem sc_d_check_congruence : FnScope ["monoid", "thing"] ["monoid", "thing"] d_check_congruence.scope := ⟨rfl, rfl, rfl, by decide +kernel, rfl, by decide +kernel, by decide +kernel⟩
theorem go_check_congruence (T : Txt K mg) : Go P w K mg base "check_congruence" ["monoid", "thing"] 4 (spCheckCong P w tb K) := by
  obtain ⟨fd, F⟩ := T.fn 25
  obtain ⟨f_is_congruence, fd_is_congruence, m_is_congruence, k_is_congruence, b_is_congruence, G_is_congruence⟩ := go_is_congruence (P := P) (w := w) (base := base) (tb := tb) T
  refine ⟨_, fd, T.g_check_congruence, F.kp, F.bindsN (fun _ _ _ _ _ _ us hl => match us, hl with | [_, _], _ => rfl), okN F sc_d_check_congruence (fun vs H Q E h => by
    obtain ⟨_, _, _, _, _, _, rfl, _⟩ := h
    rfl) (fun cdv A outer s H vs Q E rm h => ?_)⟩
  obtain ⟨m, v, T', n, k, ρ, rfl, ok, hM, hG, hv, hC, q⟩ := h
  refine ⟨_, (pss_one (ps_if (pt_not (pt_val (pe_call G_is_congruence (rm.mono (by decide)) rfl m_is_congruence k_is_congruence b_is_congruence .nil pass0 (pa_cons (pv 0) (pa_cons (pv 1) pa_nil))))) (pss_one (ps_never)) pss_nil)), ?_⟩
  exact ⟨_, rfl, _, rfl, m, v, T', n, k, ρ, rfl, ok, hM, hG, hv, hC, fun H' e => ⟨true, rfl, iteF rfl (q H' e)⟩⟩
end
end K95
set_option Elab.async false
set_option linter.all false
set_option maxRecDepth 100000
set_option maxHeartbeats 4000000
set_option autoImplicit false
namespace K95
open PySem PySem.Spec PyProof.Rows L2
section
variable {P : Program} {w : World} {K : PySem.W.Frag} {mg : Str → Option Value} {base : Heap} {tb : Tbs}
def spQuotient (P : Program) (w : World) (tb : Tbs) (K : PySem.W.Frag) : Sp := fun vs H Q _ => ∃ (m : Addr) (v : V) (T : Tab) (n k : Nat) (ρ : List Nat), vs = [.ref m, v] ∧ Okk tb (CM K) H ∧ MonAt P w (CM K) H m T ∧ Good T n k ∧ IntTup H v ρ ∧ CongT (stepsOf T) n (2 * k) ρ ∧
  ∀ H' p m' v' found rows, Ext P w tb (CM K) H H' → H' p = some (.tup [.ref m', v']) → MonAt P w (CM K) H' m' rows → Bfs (nxQ T ρ) k 0 found rows → rows.length = found.length → Good rows found.length k → Q (.ref p) H'
theorem sc_d_quotient : FnScope ["monoid", "classes", "found", "numbers", "rows", "row", "one", "least"] ["monoid", "classes"] d_quotient.scope := ⟨rfl, rfl, rfl, by decide +kernel, rfl, by decide +kernel, by decide +kernel⟩
theorem go_quotient (T : Txt K mg) : Go P w K mg base "quotient" ["monoid", "classes"] 5 (spQuotient P w tb K) := by
  obtain ⟨fd, F⟩ := T.fn 30
  obtain ⟨fd_init, b_init, G_init⟩ := go_init (P := P) (w := w) (base := base) (tb := tb) T
  obtain ⟨f_check_congruence, fd_check_congruence, m_check_congruence, k_check_congruence, b_check_congruence, G_check_congruence⟩ := go_check_congruence (P := P) (w := w) (base := base) (tb := tb) T
  obtain ⟨f_checked, fd_checked, m_checked, k_checked, b_checked, G_checked⟩ := go_checked (P := P) (w := w) (base := base)  T
  refine ⟨_, fd, T.g_quotient, F.kp, F.bindsN (fun _ _ _ _ _ _ us hl => match us, hl with | [_, _], _ => rfl), okN F sc_d_quotient (fun vs H Q E h => by
    obtain ⟨_, _, _, _, _, _, rfl, _⟩ := h
    rfl) (fun cdv A outer s H vs Q E rm h => ?_)⟩
  obtain ⟨m, v, T', n, k, ρ, rfl, ok, hM, hG, ⟨va, rfl, hva⟩, hC, q⟩ := h
  have hM' := hM
  obtain ⟨_, dx, r0, t0, l0, d0, hB, _⟩ := hM'
  obtain ⟨rs, a11, a12⟩ := hB.right
  have hlen := hG.form.len
  have n2 := hG.form.n2
  have k2 := hG.form.k2
  have hρ := hC.len
  refine ⟨_, (pss_cons (ps_expr (pe_call G_checked (rm.mono (by decide)) rfl m_checked k_checked b_checked .nil pass0 (pa_cons (pv 0) pa_nil)))
      (pss_cons (ps_expr (pe_call G_check_congruence (rm.mono (by decide)) rfl m_check_congruence k_check_congruence b_check_congruence .nil pass0 (pa_cons (pv 0) (pa_cons (pv 1) pa_nil))))
      (pss_cons (ps_asg (pe_tup (pa_cons (pe_lst (pa_cons pe_int pa_nil)) (pa_cons (pe_disp1 (hu_of rm) pe_int pe_int) (pa_cons (pe_lst pa_nil) pa_nil)))) (pg_tup (n := 3) rfl (pgs_cons (pg_name (i := 2) sc_d_quotient.nd rfl (Or.inl rfl)) (pgs_cons (pg_name (i := 3) sc_d_quotient.nd rfl (Or.inr rfl)) (pgs_cons (pg_name (i := 4) sc_d_quotient.nd rfl (Or.inl rfl)) pgs_nil)))))
      (pss_cons (ps_while PassesOwn.never (pt_cmpR (op_lt) (pe_callB call_len_seq (by rfl) T.n_len boot_len (pa_cons (pv 4) pa_nil)) (pe_callB call_len_seq (by rfl) T.n_len boot_len (pa_cons (pv 2) pa_nil)) (nomark _)) (pss_cons (ps_setLc (i := 5) (own := [("one", 6)]) (g := gName 6) rfl sc_d_quotient.nd rfl rfl (sw_true rfl rfl rfl (by decide +kernel)) (pi_tup (pe_ix ix_tup (pe_fld (pv 0) rfl) (pe_ix ix_list (pv 2) (pe_callB call_len_seq (by rfl) T.n_len boot_len (pa_cons (pv 4) pa_nil)) (fun _ _ => rfl)) (fun _ _ => rfl))) (blkOk_by (N := ["monoid", "classes", "found", "numbers", "rows", "row", "one", "least"]) (sc := d_quotient.scope) (by decide +kernel)) (fun _ _ _ _ _ => (pg_name (i := 6) sc_d_quotient.nd rfl (Or.inl rfl))) (fun _ _ _ _ _ => pts_nil) (fun _ _ _ _ _ => pe_c (pe_ix ix_tup (pv 1) (pv 6) (fun _ _ => rfl))))
      (pss_cons (ps_for PassesOwn.never rfl (pi_list (pv 5)) (pg_name (i := 6) sc_d_quotient.nd rfl (Or.inl rfl))
      (pss_one (ps_if (pt_cmp (pc_dnotin (hu_of rm) (pv 6) (pv 3))) (pss_cons (ps_dput (hu_of rm) (pv 3) (pv 6) (pe_callB call_len_seq (by rfl) T.n_len boot_len (pa_cons (pv 2) pa_nil)) rfl)
      (pss_one (ps_expr (pe_bm PySem.F.plainAttrs_list PySem.F.slot_list_append PySem.F.type_list_append mt_append (pv 2) (pa_cons (pv 6) pa_nil))))) pss_nil)))
      (pss_one (ps_expr (pe_bm PySem.F.plainAttrs_list PySem.F.slot_list_append PySem.F.type_list_append mt_append (pv 4) (pa_cons (pe_callTy call_tuple_of (by rfl) T.n_tuple boot_tuple (pa_cons (pe_lc (own := [("one", 6)]) (g := gName 6) rfl sc_d_quotient.nd (pi_list (pv 5)) (blkOk_by (N := ["monoid", "classes", "found", "numbers", "rows", "row", "one", "least"]) (sc := d_quotient.scope) (by decide +kernel)) (fun _ _ _ _ _ => (pg_name (i := 6) sc_d_quotient.nd rfl (Or.inl rfl))) (fun _ _ _ _ _ => pts_nil) (fun _ _ _ _ _ => pe_c (pe_dget (hu_of rm) (pv 3) (pv 6) (fun _ _ => rfl)))) pa_nil)) pa_nil)))))))
      (pss_one (ps_ret (pe_tup (pa_cons (pe_make T.mkr G_init (rm.mono (by decide)) rfl T.g_Monoid b_init .nil pass0 (pa_cons (pe_callTy call_tuple_of (by rfl) T.n_tuple boot_tuple (pa_cons (pv 4) pa_nil)) pa_nil)) (pa_cons (pe_callTy call_tuple_of (by rfl) T.n_tuple boot_tuple (pa_cons (pe_lc (own := [("least", 7)]) (g := gName 7) rfl sc_d_quotient.nd (pi_tup (pv 1)) (blkOk_by (N := ["monoid", "classes", "found", "numbers", "rows", "row", "one", "least"]) (sc := d_quotient.scope) (by decide +kernel)) (fun _ _ _ _ _ => (pg_name (i := 7) sc_d_quotient.nd rfl (Or.inl rfl))) (fun _ _ _ _ _ => pts_nil) (fun _ _ _ _ _ => pe_c (pe_dget (hu_of rm) (pv 3) (pv 7) (fun _ _ => rfl)))) pa_nil)) pa_nil))))))))), ?_⟩
  refine ⟨_, rfl, m, dx, _, rfl, hB.ob, ?_⟩
  refine ⟨_, rfl, _, rfl, m, _, T', n, k, ρ, rfl, ok, hM, hG, ⟨va, rfl, hva⟩, hC, fun H0 e0 => ?_⟩
  refine ⟨(by show 1 ≤ sizeLine; decide), fun fa hfa => ?_⟩
  have e1 := e0.trans (Ext.new (P := P) (w := w) (tb := tb) (C := CM K) (o := .lst [.int 0]) hfa)
  refine fun na hna => ⟨upd_same, elN.dic [(0, .int 0)], elN.one (x := 0) rfl, ?_⟩
  have nna : Nw H na := e1.nw hna
  have e2 := (e1.trans (Ext.new (P := P) (w := w) (tb := tb) (C := CM K) (o := .dK []) hna)).mut (o := elN.dic [(0, .int 0)]) nna upd_same rfl (fun _ _ _ _ _ => elN.ni _ _ _ _)
  have hfn : fa ≠ na := fun z => by rw [← z, upd_same] at hna; cases hna
  refine ⟨Nat.zero_le _, fun ra hra => ?_⟩
  have e3 := e2.trans (Ext.new (P := P) (w := w) (tb := tb) (C := CM K) (o := .lst []) hra)
  refine ⟨(by show 3 ≤ sizeLine; decide), fun t ht => ?_⟩
  have et := Ext.new (P := P) (w := w) (tb := tb) (C := CM K) (o := .tup [.ref fa, .ref na, .ref ra]) ht
  have hfa2 : (upd (upd (upd (upd H0 fa (.lst [.int 0])) na (.dK [])) na (elN.dic [(0, .int 0)])) ra (.lst [])) fa = some (.lst [.int 0]) := by
    have h0 : (upd (upd (upd H0 fa (.lst [.int 0])) na (.dK [])) na (elN.dic [(0, .int 0)])) fa = some (.lst [.int 0]) := by rw [upd_ne hfn, upd_ne hfn, upd_same]
    rw [upd_ne (ne_of_none h0 hra)]
    exact h0
  have hra2 : fa ≠ ra := fun z => by rw [← z, upd_ne hfn, upd_ne hfn, upd_same] at hra; cases hra
  have w0 : WkI P w tb (CM K) elN H (upd (upd (upd (upd H0 fa (.lst [.int 0])) na (.dK [])) na (elN.dic [(0, .int 0)])) ra (.lst [])) fa na ra [0] [] [.int 0] [] :=
    ⟨e3, hfa2, .cons rfl .nil, by rw [upd_ne (fun z => by rw [← z, upd_same] at hra; cases hra), upd_same]; rfl, upd_same, .nil, e0.nw hfa, nna, e2.nw hra, hra2⟩
  refine ⟨t, _, rfl, SqT.of upd_same, rfl, _, _, rfl, _, _, rfl, _, [], rfl, rfl, ?_⟩
  refine ⟨fun m' σ H' => ∃ found rows fv rv y5 y6, σ = [some (.ref m), some (.ref va), some (.ref fa), some (.ref na), some (.ref ra), y5, y6, none] ∧ WkI P w tb (CM K) elN H H' fa na ra found rows fv rv ∧ Bfs (nxQ T' ρ) k 0 found rows ∧ (∀ x ∈ found, x < n) ∧ m' = n - rows.length,
    ⟨n, [0], [], [.int 0], [], none, none, rfl, w0.ext et, Bfs.start _ _ _, fun x hx => by rw [List.mem_singleton.mp hx]; exact hG.form.n1, rfl⟩, fun m' σ H' hW => ?_⟩
  obtain ⟨found, rows, fv, rv, y5, y6, rfl, W, B, hGf, hm⟩ := hW
  have hfl : fv.length = found.length := paired_len W.fp
  have hrl : rv.length = rows.length := paired_len W.rp
  have hfN : found.length ≤ n := nodup_lt B.nd hGf
  refine ⟨_, rfl, ra, _, rfl, .inl (SqL.of W.r), _, rfl, fa, _, rfl, .inl (SqL.of W.f), _, _, rfl, rfl, _, rfl, ite2 (fun hlt => ?_) fun hge => ?_⟩
  · have hlt' : rows.length < found.length := by
      have := of_decide_eq_true hlt
      omega
    refine ⟨fun σ' H'' => ∃ m2, m2 < m' ∧ (∃ found rows fv rv y5 y6, σ' = [some (.ref m), some (.ref va), some (.ref fa), some (.ref na), some (.ref ra), y5, y6, none] ∧ WkI P w tb (CM K) elN H H'' fa na ra found rows fv rv ∧ Bfs (nxQ T' ρ) k 0 found rows ∧ (∀ x ∈ found, x < n) ∧ m2 = n - rows.length), fun σ' H'' h => h, ?_⟩
    have hx : found[rows.length]? = some found[rows.length] := List.getElem?_eq_getElem hlt'
    obtain ⟨vx, gx, rx⟩ := paired_get W.fp hx
    have hvx : vx = nv found[rows.length] := rx
    have hGx : found[rows.length] < n := hGf _ (List.getElem_mem hlt')
    generalize found[rows.length] = x0 at hx rx hGx hvx
    subst hvx
    obtain ⟨trow, g1, g2, g3⟩ := hG.form.at hGx
    obtain ⟨vr, gr, br, rfl, hbr⟩ := paired_get a12 g1
    have htn := hG.form.ent x0 trow g1
    refine ⟨_, rfl, _, _, dx, _, _, rfl, W.e.ins hB.ob, T.cl, T.no_right, rfl, _, rfl, _, rfl, ra, _, rfl, .inl (SqL.of W.r), _, _, _, _, rfl, rfl, SqL.of W.f, atI_nat (j := rv.length) (v := nv x0) (by rw [hrl]; exact gx), _, _, _, _, rfl, rfl, SqT.of (W.e.tup a11), atI_nat gr, ?_⟩
    refine lc_t (P := P) (w := w) (tb := tb) (C := CM K) (W.e.tup hbr) (fun _ i y _ => y = nv (nxQ T' ρ x0 i)) (fun D => stab_val fun i => nv (nxQ T' ρ x0 i)) (by rw [nvs_len]; omega) (fun _ => ?_) (fun D i lv H5 acc hx5 e5 hD hac Qk qk => ?_) (fun D H5 ys hD e5 hy hl5 hr5 => ?_)
    · rfl
    · rw [nvs_get] at hx5
      obtain ⟨o, ho, rfl⟩ := Option.map_eq_some_iff.mp hx5
      have hon := htn o (List.mem_of_getElem? ho)
      have eo : o = step T' x0 i := by
        unfold step
        rw [g3, List.getD_eq_getElem?_getD, ho] <;> rfl
      refine ⟨_, rfl, _, rfl, _, _, _, _, rfl, rfl, SqT.of ((W.e.trans e5).tup hva), atI_nat (v := nv (at_ ρ o)) (by rw [nvs_get, cong_get hC hon]; rfl), qk _ _ (.refl _) ?_⟩
      rw [eo] <;> rfl
    · have W5 := W.ext e5
      rw [nvs_len, g2] at hl5
      have hys : ys = nvs ((List.range k).map (nxQ T' ρ x0)) := by
        unfold nvs
        rw [List.map_map]
        refine list_map (by rw [hl5]; simp) fun i y x hy hx => ?_
        have hik : i < k := by
          have := (List.getElem?_eq_some_iff.mp hx).1
          simpa using this
        rw [List.getElem?_range hik] at hx
        cases hx
        exact hr5 i y hy
      have hxsl : ((List.range k).map (nxQ T' ρ x0)).length = k := by simp
      have BB := B.step hx
      have hxsG : ∀ z ∈ (List.range k).map (nxQ T' ρ x0), z < n := fun z hz => by
        obtain ⟨c, hc, rfl⟩ := List.mem_map.mp hz
        exact cong_lt hC (hG.form.step_lt hGx (List.mem_range.mp hc))
      generalize (List.range k).map (nxQ T' ρ x0) = xs at hys hxsl hxsG BB
      subst hys
      have nD : Nw H D := W.e.nw hD
      have hDf : D ≠ fa := fun z => by rw [z, W.f] at hD; cases hD
      have hDn : D ≠ na := fun z => by rw [z, W.n] at hD; cases hD
      refine ⟨_, rfl, D, rfl, ⟨_, SqL.of hy⟩, for_it (walk_list (xs := nvs xs)) (fun i σ H' => ∃ found' fv' y6, σ = [some (.ref m), some (.ref va), some (.ref fa), some (.ref na), some (.ref ra), some (.ref D), y6, none] ∧ WkI P w tb (CM K) elN H H' fa na ra found' rows fv' rv ∧ H' D = some (.lst (nvs xs)) ∧ found' = grow found (xs.take i) ∧ (∀ x ∈ found', x < n))
        ⟨found, fv, y6, rfl, W5, hy, by simp [grow_nil], hGf⟩ (fun i σ H' _ ⟨_, _, _, _, _, h, _⟩ => SqL.of h) (fun i v σ H' H6 hi ⟨found', fv', y6, es, W6, hD6, hg6, hG6⟩ hyy => ?_) fun σ H' ⟨found', fv', y6, es, W6, hD6, hg6, hG6⟩ => ?_⟩
      · obtain ⟨rfl, hv⟩ := hyy
        subst es
        rw [nvs_get] at hv
        obtain ⟨z, hz, rfl⟩ := Option.map_eq_some_iff.mp hv
        have hval := elN.get (x := z) W6.n rfl
        have htake : xs.take (i + 1) = xs.take i ++ [z] := by rw [List.take_succ, hz]; rfl
        refine ⟨_, rfl, _, rfl, na, _, rfl, hval, _, rfl, ite2 (fun hnew => ?_) fun hold => ?_⟩
        · have hzn : z ∉ found' := fun hmem => by
            rw [numb_val, if_pos hmem] at hnew
            cases hnew
          have hvn : valV (numb found') z = none := by rw [numb_val, if_neg hzn]
          have hfN' : found'.length ≤ n := nodup_lt (by rw [hg6]; exact grow_nodup _ _ B.nd) hG6
          have hfl' : fv'.length = found'.length := paired_len W6.fp
          have hsz : (numb found').length < sizeLine := line_of (by unfold numb; rw [List.length_mapIdx]; omega)
          refine ⟨_, rfl, fa, _, rfl, .inl (SqL.of W6.f), _, rfl, _, rfl, na, _, rfl, elN.put (x := z) (y := nv fv'.length) W6.n rfl hvn hsz, ?_⟩
          have eq1 : numb (found' ++ [z]) = numb found' ++ [(z, nv fv'.length)] := by rw [numb_snoc, hfl']
          have kt := tup_upd (o := elN.dic (numb found' ++ [(z, nv fv'.length)])) W6.n (elN.mu _)
          have h7 : (upd H6 na (elN.dic (numb found' ++ [(z, nv fv'.length)]))) fa = some (.lst fv') := by rw [upd_ne W6.d1]; exact W6.f
          have e7 := W6.e.mut (o := elN.dic (numb found' ++ [(z, nv fv'.length)])) W6.nn W6.n (elN.mu _) (fun _ _ _ _ _ => elN.ni _ _ _ _)
          refine ⟨_, rfl, .inl ⟨rfl, _, SqL.of h7⟩, _, rfl, fa, _, _, rfl, rfl, h7, line_of (by omega), ?_⟩
          have kt2 := tup_upd (o := .lst (fv' ++ [nv z])) h7 rfl
          have ktt : ∀ a xs, H6 a = some (.tup xs) → upd (upd H6 na (elN.dic (numb found' ++ [(z, nv fv'.length)]))) fa (.lst (fv' ++ [nv z])) a = some (.tup xs) := fun a xs h => kt2 a xs (kt a xs h)
          refine ⟨found' ++ [z], fv' ++ [nv z], some (nv z), rfl, ⟨e7.mut W6.nf h7 rfl, upd_same, paired_app (Paired.mapP W6.fp fun _ _ y => elN.tup ktt y) (.cons rfl .nil), ?_, ?_, Paired.mapP W6.rp fun _ _ y => y.mono ktt, W6.nf, W6.nn, W6.nr, W6.d2⟩, ?_, ?_, ?_⟩
          · rw [upd_ne W6.d1.symm, upd_same, eq1]
          · rw [upd_ne W6.d2.symm, upd_ne W6.d3]
            exact W6.r
          · rw [upd_ne hDf, upd_ne hDn]
            exact hD6
          · rw [htake, hg6]
            unfold grow
            rw [List.foldl_append]
            show _ = (if z ∈ grow found (xs.take i) then _ else _)
            rw [← hg6, if_neg hzn] <;> rfl
          · intro x hx
            rcases List.mem_append.mp hx with h | h
            · exact hG6 x h
            · rw [List.mem_singleton.mp h]
              exact hxsG z (List.mem_of_getElem? hz)
        · have hzn : z ∈ found' := Classical.byContradiction fun hmem => by
            rw [numb_val, if_neg hmem] at hold
            cases hold
          refine ⟨found', fv', some (nv z), rfl, W6, hD6, ?_, hG6⟩
          rw [htake, hg6]
          unfold grow
          rw [List.foldl_append]
          show _ = (if z ∈ grow found (xs.take i) then _ else _)
          rw [← hg6, if_pos hzn]
      · subst es
        have hfull : found' = grow found xs := by
          rw [hg6, nvs_len, List.take_length]
        have hfN' : found'.length ≤ n := nodup_lt (by rw [hg6]; exact grow_nodup _ _ B.nd) hG6
        refine ⟨_, rfl, .inl ⟨rfl, _, SqL.of W6.r⟩, ?_⟩
        refine ⟨_, rfl, lc_l (P := P) (w := w) (tb := tb) (C := CM K) hD6 (fun _ i y _ => ∀ x, xs[i]? = some x → y = nv (found'.idxOf x)) (fun D i y H H' acc hD k r => r) (by rw [nvs_len]; omega) (fun _ => ?_) (fun D2 i v H7 acc hx7 e7 hD2 hac Qk qk => ?_) (fun D2 H7 zs hD2 e7 hy7 hl7 hr7 => ?_)⟩
        · rfl
        · have W7 := W6.ext e7
          rw [nvs_get] at hx7
          obtain ⟨z, hz, rfl⟩ := Option.map_eq_some_iff.mp hx7
          have hzm : z ∈ found' := by rw [hfull]; exact (grow_mem _ _ _).mpr (.inr (List.mem_of_getElem? hz))
          have hval := elN.get (x := z) W7.n rfl
          rw [numb_val, if_pos hzm] at hval
          refine ⟨_, rfl, _, rfl, na, _, rfl, hval, ?_⟩
          exact qk _ _ (.refl _) fun x hx => by rw [hz] at hx; cases hx; rfl
        · have ezs : zs = nvs (xs.map fun x => found'.idxOf x) := by
            unfold nvs
            rw [List.map_map]
            exact list_map (by rw [hl7, nvs_len]) fun i y x hy hx => hr7 i y hy x hx
          subst ezs
          have W7 := W6.ext e7
          refine ⟨D2, _, rfl, .inl ⟨SqL.of hy7, fun r2 hr2 => ?_⟩⟩
          have e8 := Ext.new (P := P) (w := w) (tb := tb) (C := CM K) (o := .tup (nvs (xs.map fun x => found'.idxOf x))) hr2
          have W8 := W7.ext e8
          refine ⟨ra, _, _, rfl, rfl, W8.r, line_of (by omega), ?_⟩
          have kt := tup_upd (o := .lst (rv ++ [.ref r2])) W8.r rfl
          rw [← hfull] at BB
          refine ⟨n - (rows ++ [xs.map fun y => found'.idxOf y]).length, by rw [List.length_append, hm]; simp; omega, found', _, fv', rv ++ [.ref r2], some (.ref D), y6, rfl, ⟨W8.e.mut W8.nr W8.r rfl, ?_, Paired.mapP W8.fp fun _ _ y => elN.tup kt y, ?_, upd_same, paired_app (Paired.mapP W8.rp fun _ _ y => y.mono kt) (.cons ⟨r2, rfl, kt _ _ upd_same⟩ .nil), W8.nf, W8.nn, W8.nr, W8.d2⟩, BB, hG6, rfl⟩
          · rw [upd_ne W8.d2]
            exact W8.f
          · rw [upd_ne W8.d3.symm]
            exact W8.n
  · have hfin : rows.length = found.length := by
      have := of_decide_eq_false hge
      have := B.le
      omega
    obtain ⟨gG, _, _⟩ := quot_good hG hC B hfin
    refine ⟨_, rfl, ra, _, rfl, .inl ⟨SqL.of W.r, fun rt0 hrt => ?_⟩⟩
    have e8 := Ext.new (P := P) (w := w) (tb := tb) (C := CM K) (o := .tup rv) hrt
    have W8 := W.ext e8
    have hraO : TabO (upd H' rt0 (.tup rv)) (.ref rt0) rows := by
      refine ⟨rv, ⟨rt0, rfl, .inl upd_same⟩, Paired.mapP W8.rp fun _ _ z => ?_⟩
      obtain ⟨b, e1, e2⟩ := z
      exact ⟨b, e1, .inl e2⟩
    refine fun x dx hx hdx ne => make_mon hx hdx ne hraO gG fun H5 e5 hM5 => ?_
    have W5 := W8.ext e5
    have ok5 := W5.e.ok ok
    refine ⟨_, rfl, lc_t (P := P) (w := w) (tb := tb) (C := CM K) (W5.e.tup hva) (fun _ i y _ => ∃ z, y = nv z) (fun D i y H H' acc hD k r => r) (by rw [nvs_len]; omega) (fun _ => ?_) (fun D2 i v H7 acc hx7 e7 hD2 hac Qk qk => ?_) (fun D2 H7 zs hD2 e7 hy7 hl7 hr7 => ?_)⟩
    · rfl
    · have W7 := W5.ext e7
      rw [nvs_get] at hx7
      obtain ⟨z, hz, rfl⟩ := Option.map_eq_some_iff.mp hx7
      have hzn := cong_mem hC z (List.mem_of_getElem? hz)
      have hzi : at_ ρ z = z := by
        obtain ⟨i', hi'⟩ : ∃ i', i' < n ∧ z = at_ ρ i' := by
          have hin : i < n := by rw [← hρ]; exact (List.getElem?_eq_some_iff.mp hz).1
          rw [cong_get hC hin] at hz
          exact ⟨i, hin, (Option.some.inj hz).symm⟩
        rw [hi'.2]
        exact (hC.rep i' hi'.1).2
      have hzm : z ∈ found := by
        obtain ⟨hp1, hp2⟩ := hG.path_ok hzn
        have h1 := nxQ_val hG hC hp2
        have hp3 : val T' (K95.path T' z) = z := hp1
        rw [hp3, hzi] at h1
        have h2 := B.val_at hfin hp2
        rw [h1] at h2
        exact List.mem_of_getElem? h2
      have hval := elN.get (x := z) W7.n rfl
      rw [numb_val, if_pos hzm] at hval
      exact ⟨_, rfl, _, rfl, na, _, rfl, hval, qk _ _ (.refl _) ⟨_, rfl⟩⟩
    · refine ⟨D2, _, rfl, .inl ⟨SqL.of hy7, fun p2 hp2 => ⟨(by show 2 ≤ sizeLine; decide), fun p3 hp3 => ?_⟩⟩⟩
      have e9 := (e7.trans (Ext.new (P := P) (w := w) (tb := tb) (C := CM K) (o := .tup zs) hp2)).trans (Ext.new (P := P) (w := w) (tb := tb) (C := CM K) (o := .tup [.ref x, .ref p2]) hp3)
      exact q _ p3 x (.ref p2) found rows (W5.e.trans e9) upd_same (e9.mon ok5 _ _ hM5) B hfin gG
end
end K95
set_option Elab.async false
set_option linter.all false
set_option maxRecDepth 100000
set_option maxHeartbeats 4000000
set_option autoImplicit false
namespace K95
open PySem PySem.Spec PyProof.Rows L2
section
variable {P : Program} {w : World} {K : PySem.W.Frag} {mg : Str → Option Value} {base : Heap} {tb : Tbs}
/-- one pair of numbers -/
def spCongruence (P : Program) (w : World) (tb : Tbs) (K : PySem.W.Frag) : Sp := fun vs H Q _ => ∃ (m pa t : Addr) (T : Tab) (n k a b : Nat), vs = [.ref m, .ref pa] ∧ Okk tb (CM K) H ∧ MonAt P w (CM K) H m T ∧ Good T n k ∧ H pa = some (.lst [.ref t]) ∧ H t = some (.tup [nv a, nv b]) ∧ a < n ∧ b < n ∧
  ∀ H' p ρ, Ext P w tb (CM K) H H' → CongT (stepsOf T) n (2 * k) ρ → H' p = some (.tup (nvs ρ)) → Q (.ref p) H'
theorem sc_d_congruence : FnScope ["monoid", "pairs", "place", "pair", "one"] ["monoid", "pairs"] d_congruence.scope := ⟨rfl, rfl, rfl, by decide +kernel, rfl, by decide +kernel, by decide +kernel⟩
theorem go_congruence (T : Txt K mg) : Go P w K mg base "congruence" ["monoid", "pairs"] 4 (spCongruence P w tb K) := by
  obtain ⟨fd, F⟩ := T.fn 26
  obtain ⟨f_closed, fd_closed, m_closed, k_closed, b_closed, G_closed⟩ := go_closed (P := P) (w := w) (base := base) (tb := tb) T
  obtain ⟨f_steps_by_letters, fd_steps_by_letters, m_steps_by_letters, k_steps_by_letters, b_steps_by_letters, G_steps_by_letters⟩ := go_steps_by_letters (P := P) (w := w) (base := base) (tb := tb) T
  obtain ⟨f_is_number_of, fd_is_number_of, m_is_number_of, k_is_number_of, b_is_number_of, G_is_number_of⟩ := go_is_number_of (P := P) (w := w) (base := base)  T
  obtain ⟨f_is_sequence, fd_is_sequence, m_is_sequence, k_is_sequence, b_is_sequence, G_is_sequence⟩ := go_is_sequence (P := P) (w := w) (base := base) (tb := tb) T
  obtain ⟨f_checked, fd_checked, m_checked, k_checked, b_checked, G_checked⟩ := go_checked (P := P) (w := w) (base := base)  T
  refine ⟨_, fd, T.g_congruence, F.kp, F.bindsN (fun _ _ _ _ _ _ us hl => match us, hl with | [_, _], _ => rfl), okN F sc_d_congruence (fun vs H Q E h => by
    obtain ⟨_, _, _, _, _, _, _, _, rfl, _⟩ := h
    rfl) (fun cdv A outer s H vs Q E rm h => ?_)⟩
  obtain ⟨m, pa, t, T', n, k, a, b, rfl, ok, hM, hG, hpa, ht, ha, hb, q⟩ := h
  have hM' := hM
  obtain ⟨_, dx, r0, t0, l0, d0, hB, _⟩ := hM'
  have hlen := hG.form.len
  have n2 := hG.form.n2
  have k2 := hG.form.k2
  refine ⟨_, (pss_cons (ps_expr (pe_call G_checked (rm.mono (by decide)) rfl m_checked k_checked b_checked .nil pass0 (pa_cons (pv 0) pa_nil)))
      (pss_cons (ps_if (pt_not (pt_val (pe_call G_is_sequence (rm.mono (by decide)) rfl m_is_sequence k_is_sequence b_is_sequence .nil pass0 (pa_cons (pv 1) pa_nil)))) (pss_one (ps_never)) pss_nil)
      (pss_cons (ps_for PassesOwn.never rfl (pi_enumA (by rfl) T.n_enumerate (pa_cons (pv 1) pa_nil)) (pg_tup (n := 2) rfl (pgs_cons (pg_name (i := 2) sc_d_congruence.nd rfl (Or.inl rfl)) (pgs_cons (pg_name (i := 3) sc_d_congruence.nd rfl (Or.inl rfl)) pgs_nil)))
      (pss_one (ps_if (PW.pt (pw_or (pt_not (pt_val (pe_call G_is_sequence (rm.mono (by decide)) rfl m_is_sequence k_is_sequence b_is_sequence .nil pass0 (pa_cons (pv 3) pa_nil)))) (pw_or (pt_cmpR (op_ne) (pe_callB call_len_seq (by rfl) T.n_len boot_len (pa_cons (pv 3) pa_nil)) pe_int (nomark _)) (pw_or1 (pt_not (pt_val (pe_callB (cr_all rfl) (by rfl) T.n_all boot_all (pa_cons (pe_lc (own := [("one", 4)]) (g := gName 4) rfl sc_d_congruence.nd (pi_tup (pv 3)) (blkOk_by (N := ["monoid", "pairs", "place", "pair", "one"]) (sc := d_congruence.scope) (by decide +kernel)) (fun _ _ _ _ _ => (pg_name (i := 4) sc_d_congruence.nd rfl (Or.inl rfl))) (fun _ _ _ _ _ => pts_nil) (fun _ _ _ _ _ => pe_c (pe_call G_is_number_of (rm.mono (by decide)) rfl m_is_number_of k_is_number_of b_is_number_of .nil pass0 (pa_cons (pv 0) (pa_cons (pv 4) pa_nil))))) pa_nil)))))))) (pss_one (ps_never)) pss_nil)))
      (pss_one (ps_ret (pe_call G_closed (rm.mono (by decide)) rfl m_closed k_closed b_closed .nil pass0 (pa_cons (pe_call G_steps_by_letters (rm.mono (by decide)) rfl m_steps_by_letters k_steps_by_letters b_steps_by_letters .nil pass0 (pa_cons (pv 0) pa_nil)) (pa_cons (pe_lc (own := [("pair", 3)]) (g := gName 3) rfl sc_d_congruence.nd (pi_list (pv 1)) (blkOk_by (N := ["monoid", "pairs", "place", "pair", "one"]) (sc := d_congruence.scope) (by decide +kernel)) (fun _ _ _ _ _ => (pg_name (i := 3) sc_d_congruence.nd rfl (Or.inl rfl))) (fun _ _ _ _ _ => pts_nil) (fun _ _ _ _ _ => pe_c (pe_callTy call_tuple_of (by rfl) T.n_tuple boot_tuple (pa_cons (pv 3) pa_nil)))) pa_nil)))))))), ?_⟩
  refine ⟨_, rfl, m, dx, _, rfl, hB.ob, ?_⟩
  refine ⟨_, rfl, _, _, rfl, ⟨pa, rfl, .inr hpa⟩, fun H1 e1 => ⟨true, rfl, iteF rfl ?_⟩⟩
  have hpa1 := e1.lst hpa
  refine ⟨_, rfl, en_for (.inr hpa1) (fun i σ H' => ∃ y3 y4, σ = [some (.ref m), some (.ref pa), y3, y4, none] ∧ Ext P w tb (CM K) H H') ⟨none, none, rfl, e1⟩ (fun i σ H' ⟨_, _, _, e⟩ => by rw [e.lst hpa, hpa1]) (fun i σ H' T2 z hz ⟨y4, y5, es, e⟩ hT => ?_) fun σ H' ⟨y4, y5, es, e⟩ => ?_⟩
  · subst es
    have hi : i = 0 := by
      have := (List.getElem?_eq_some_iff.mp hz).1
      simp at this
      exact this
    subst hi
    have ez : z = .ref t := (Option.some.inj hz).symm
    subst ez
    have eT := e.trans (Ext.new (P := P) (w := w) (tb := tb) (C := CM K) (o := .tup [nv 0, .ref t]) hT)
    have ht2 := eT.tup ht
    refine ⟨_, rfl, _, _, rfl, ⟨t, rfl, .inl ht2⟩, fun H3 e3 => ⟨true, rfl, iteF rfl ?_⟩⟩
    have eA := eT.trans e3
    refine ⟨_, rfl, t, _, rfl, .inr (SqT.of (eA.tup ht)), rfl, _, rfl, iteF (by simp) ?_⟩
    refine ⟨_, rfl, lc_t (P := P) (w := w) (tb := tb) (C := CM K) (eA.tup ht) (fun _ _ y _ => y = .bl true) (fun D => stab_val fun _ => .bl true) (by simp) (fun _ => ?_) (fun D i x H5 acc hx5 e5 hD hac Qk qk => ?_) (fun D H5 ys hD e5 hy hl hr5 => ?_)⟩
    · rfl
    · have hxo : ∃ o, x = nv o ∧ o < n := by
        have hi2 : i = 0 ∨ i = 1 := by
          have := (List.getElem?_eq_some_iff.mp hx5).1
          simp at this
          omega
        rcases hi2 with rfl | rfl
        · exact ⟨a, (Option.some.inj hx5).symm, ha⟩
        · exact ⟨b, (Option.some.inj hx5).symm, hb⟩
      obtain ⟨o, rfl, ho'⟩ := hxo
      exact ⟨_, rfl, _, rfl, m, T', o, rfl, (eA.trans e5).mon ok m T' hM, by rw [hlen]; exact ho', qk _ _ (.refl _) rfl⟩
    · refine ⟨D, List.replicate 2 true, rfl, ?_, _, rfl, iteF (by simp) ⟨_, _, rfl, eA.trans e5⟩⟩
      have e6 := list_same (v := V.bl true) hl hr5
      rw [e6] at hy
      exact SqL.of hy
  · subst es
    refine ⟨_, rfl, m, T', n, k, rfl, e.mon ok m T' hM, hG, fun H6 sa e6 hS => ?_⟩
    have eB := e.trans e6
    refine ⟨_, rfl, lc_l (P := P) (w := w) (tb := tb) (C := CM K) (eB.lst hpa) (fun _ _ y _ => y = .ref t) (fun D => stab_val fun _ => .ref t) (by simp) (fun _ => ?_) (fun D i x H5 acc hx5 e5 hD hac Qk qk => ?_) (fun D H5 ys hD e5 hy hl hr5 => ?_)⟩
    · rfl
    · have ex : x = .ref t := by
        have := List.mem_of_getElem? hx5
        exact List.mem_singleton.mp this
      subst ex
      exact ⟨_, rfl, t, _, rfl, .inr ⟨SqT.of ((eB.trans e5).tup ht), qk _ _ (.refl _) rfl⟩⟩
    · have eC := eB.trans e5
      have ey := list_same (v := V.ref t) hl hr5
      have ey1 : ys = [V.ref t] := ey
      subst ey1
      refine ⟨sa, D, stepsOf T', n, 2 * k, _, [(a, b)], rfl, hS.ext e5, stepsOf_form hG, n2, by omega, hy, .cons ⟨t, rfl, eC.tup ht⟩ .nil, by simp, fun p hp => by rw [List.mem_singleton.mp hp]; exact ⟨ha, hb⟩, fun H7 p r e7 I hp => ?_⟩
      exact q H7 p _ (eC.trans e7) (I.done (stepsOf_form hG)) hp
end
end K95
set_option Elab.async false
set_option linter.all false
set_option maxRecDepth 100000
set_option maxHeartbeats 4000000
set_option autoImplicit false
namespace K95
open PySem PySem.Spec PyProof.Rows L2
def knw (n met : Nat) : List V := (List.range n).map fun x => V.bl (decide (x < met))
theorem knw_get {n met x : Nat} (h : x < n) : (knw n met)[x]? = some (V.bl (decide (x < met))) := by
  unfold knw
  rw [List.getElem?_map, List.getElem?_range h] <;> rfl
theorem knw_set {n met : Nat} (h : met < n) : (knw n met).set met (V.bl true) = knw n (met + 1) := by
  refine List.ext_getElem? fun i => ?_
  rw [List.getElem?_set]
  by_cases hi : i < n
  · rw [knw_get hi]
    by_cases e : met = i
    · subst e
      rw [if_pos rfl, if_pos (by unfold knw; simp; exact h), knw_get hi, decide_eq_true (by omega)]
    · rw [if_neg e, knw_get hi]
      have : decide (i < met) = decide (i < met + 1) := by
        by_cases h2 : i < met
        · simp [h2, Nat.lt_succ_of_lt h2]
        · have : ¬ i < met + 1 := by omega
          simp [h2, this]
      rw [this]
  · have h1 : (knw n (met + 1))[i]? = none := List.getElem?_eq_none (by unfold knw; simp; omega)
    have h2 : (knw n met)[i]? = none := List.getElem?_eq_none (by unfold knw; simp; omega)
    rw [h1, h2]
    split
    · split
      · rename_i a b
        unfold knw at b
        simp at b
        omega
      · rfl
    · rfl
theorem rep_flat {α : Type} (n : Nat) (x : α) : (List.replicate n [x]).flatten = List.replicate n x := by
  induction n with
  | zero => rfl
  | succ n ih => rw [List.replicate_succ, List.flatten_cons, ih, List.replicate_succ] <;> rfl
theorem knw_one {n : Nat} (h : 1 ≤ n) : [V.bl true] ++ List.replicate (n - 1) (V.bl false) = knw n 1 := by
  obtain ⟨m, rfl⟩ : ∃ m, n = m + 1 := ⟨n - 1, by omega⟩
  refine List.ext_getElem? fun i => ?_
  by_cases hi : i < m + 1
  · rw [knw_get hi]
    cases i with
    | zero => rfl
    | succ i =>
      rw [List.getElem?_append_right (by simp)]
      have h2 : ¬ (i + 1 < 1) := by omega
      rw [decide_eq_false h2]
      simp only [List.length_singleton, Nat.add_sub_cancel]
      rw [List.getElem?_replicate, if_pos (by omega)]
  · rw [List.getElem?_eq_none (by simp; omega), List.getElem?_eq_none (by unfold knw; simp; omega)]
section
variable {P : Program} {w : World} {K : PySem.W.Frag} {mg : Str → Option Value} {base : Heap} {tb : Tbs}
def spValues (P : Program) (w : World) (tb : Tbs) (K : PySem.W.Frag) : Sp := fun vs H Q _ => ∃ (m1 m2 : Addr) (v : V) (A B : Tab) (n1 k1 n2 k2 : Nat) (imgs : List Nat), vs = [.ref m1, .ref m2, v] ∧ Okk tb (CM K) H ∧ MonAt P w (CM K) H m1 A ∧ MonAt P w (CM K) H m2 B ∧ Good A n1 k1 ∧ Good B n2 k2 ∧ IntTup H v imgs ∧ imgs.length = k1 ∧ (∀ x ∈ imgs, x < n2) ∧
  ∀ H' p fl, Ext P w tb (CM K) H H' → Nw H p → H' p = some (.lst (nvs fl)) → fl.length = n1 → (∀ x ∈ fl, x < n2) → (∀ x, x < n1 → at_ fl x = img A B imgs x) → Q (.ref p) H'
theorem sc_d_values_by_words : FnScope ["one", "other", "images", "found", "known", "number", "row", "letter", "later"] ["one", "other", "images"] d_values_by_words.scope := ⟨rfl, rfl, rfl, by decide +kernel, rfl, by decide +kernel, by decide +kernel⟩
theorem go_values_by_words (T : Txt K mg) : Go P w K mg base "values_by_words" ["one", "other", "images"] 5 (spValues P w tb K) := by
  obtain ⟨fd, F⟩ := T.fn 31
  obtain ⟨fd_times, b_times, G_times⟩ := go_times (P := P) (w := w) (base := base) (tb := tb) T
  refine ⟨_, fd, T.g_values_by_words, F.kp, F.bindsN (fun _ _ _ _ _ _ us hl => match us, hl with | [_, _, _], _ => rfl), okN F sc_d_values_by_words (fun vs H Q E h => by
    obtain ⟨_, _, _, _, _, _, _, _, _, _, rfl, _⟩ := h
    rfl) (fun cdv A outer s H vs Q E rm h => ?_)⟩
  obtain ⟨m1, m2, v, AA, BB, n1, k1, n2, k2, imgs, rfl, ok, hM1, hM2, G1, G2, ⟨va, rfl, hva⟩, hil, hin, q⟩ := h
  have hM1' := hM1
  have hM2' := hM2
  obtain ⟨_, dx1, r1, t1, l1, d1, B1, _⟩ := hM1'
  obtain ⟨_, dx2, r2, t2, l2, d2, B2, _⟩ := hM2'
  obtain ⟨rs, h1, h2⟩ := B1.right
  have hF := G1.form
  have z1 := hF.n1
  have zn := hF.n2
  have zk := hF.k2
  have z2 := G2.form.n1
  have G2l := G2.form.len
  have hrn : rs.length = n1 := by rw [paired_len h2, hF.len]
  refine ⟨_, (pss_cons (ps_set (i := 3) sc_d_values_by_words.nd rfl (Or.inl rfl) (pe_op op_rep (pe_lst (pa_cons pe_int pa_nil)) (pe_callB call_len_seq (by rfl) T.n_len boot_len (pa_cons (pe_fld (pv 0) rfl) pa_nil))))
      (pss_cons (ps_set (i := 4) sc_d_values_by_words.nd rfl (Or.inl rfl) (pe_op op_cat (pe_lst (pa_cons pe_bl pa_nil)) (pe_op op_rep (pe_lst (pa_cons pe_bl pa_nil)) (pe_op op_sub (pe_callB call_len_seq (by rfl) T.n_len boot_len (pa_cons (pe_fld (pv 0) rfl) pa_nil)) pe_int))))
      (pss_cons (ps_for PassesOwn.never rfl (pi_enumA (by rfl) T.n_enumerate (pa_cons (pe_fld (pv 0) rfl) pa_nil)) (pg_tup (n := 2) rfl (pgs_cons (pg_name (i := 5) sc_d_values_by_words.nd rfl (Or.inl rfl)) (pgs_cons (pg_name (i := 6) sc_d_values_by_words.nd rfl (Or.inl rfl)) pgs_nil)))
      (pss_one (ps_for PassesOwn.never rfl (pi_enumA (by rfl) T.n_enumerate (pa_cons (pv 6) pa_nil)) (pg_tup (n := 2) rfl (pgs_cons (pg_name (i := 7) sc_d_values_by_words.nd rfl (Or.inl rfl)) (pgs_cons (pg_name (i := 8) sc_d_values_by_words.nd rfl (Or.inl rfl)) pgs_nil)))
      (pss_one (ps_if (pt_not (pt_val (pe_ix ix_list (pv 4) (pv 8) (fun _ _ => rfl)))) (pss_cons (ps_asg pe_bl (pg_sub (pv 4) (pv 8) set_list))
      (pss_one (ps_asg (pe_meth (pv 1) T.cl T.m_times G_times (rm.mono (by decide)) b_times .nil pass0 (pa_cons (pe_ix ix_list (pv 3) (pv 5) (fun _ _ => rfl)) (pa_cons (pe_ix ix_tup (pv 2) (pv 7) (fun _ _ => rfl)) pa_nil))) (pg_sub (pv 3) (pv 8) set_list)))) pss_nil)))))
      (pss_one (ps_ret (pv 3)))))), ?_⟩
  refine ⟨(by show 1 ≤ sizeLine; decide), fun a1 ha1 => ?_⟩
  have e1 := Ext.new (P := P) (w := w) (tb := tb) (C := CM K) (o := .lst [.int 0]) ha1
  refine ⟨_, rfl, _, _, dx1, _, _, rfl, e1.ins B1.ob, T.cl, T.no_right, rfl, _, _, rfl, .inr (SqT.of (e1.tup h1)), a1, _, _, rfl, rfl, upd_same, by omega, by omega, by rw [hrn]; show 1 * (n1 : Int).toNat ≤ sizeLine; have := line_of (n := n1) (by omega); omega, fun fa hfa => ?_⟩
  have e2 := e1.trans (Ext.new (P := P) (w := w) (tb := tb) (C := CM K) hfa (o := .lst (List.replicate (rs.length : Int).toNat [V.int 0]).flatten))
  refine ⟨(by show 1 ≤ sizeLine; decide), fun a2 ha2 => ?_⟩
  have e3 := e2.trans (Ext.new (P := P) (w := w) (tb := tb) (C := CM K) (o := .lst [.bl true]) ha2)
  refine ⟨(by show 1 ≤ sizeLine; decide), fun a3 ha3 => ?_⟩
  have e4 := e3.trans (Ext.new (P := P) (w := w) (tb := tb) (C := CM K) (o := .lst [.bl false]) ha3)
  refine ⟨_, rfl, _, _, dx1, _, _, rfl, e4.ins B1.ob, T.cl, T.no_right, rfl, _, _, rfl, .inr (SqT.of (e4.tup h1)), _, _, rfl, rfl, a3, _, _, rfl, rfl, upd_same, by omega, by omega, by show 1 * ((rs.length : Int) - 1).toNat ≤ sizeLine; have := line_of (n := n1) (by omega); omega, fun a4 ha4 => ?_⟩
  have en1 : (List.replicate ((rs.length : Int) - 1).toNat [V.bl false]).flatten = List.replicate (n1 - 1) (V.bl false) := by
    rw [rep_flat, hrn]
    congr 1
    omega
  rw [en1]
  have e5 := Ext.new (P := P) (w := w) (tb := tb) (C := CM K) ha4 (o := .lst (List.replicate (n1 - 1) (V.bl false)))
  have e34 := Ext.new (P := P) (w := w) (tb := tb) (C := CM K) (o := .lst [.bl false]) ha3
  refine ⟨a2, a4, _, _, rfl, rfl, e5.lst (e34.lst upd_same), upd_same, by simp; have := line_of (n := n1) (by omega); omega, fun ka hka => ?_⟩
  rw [knw_one z1]
  have e6 := Ext.new (P := P) (w := w) (tb := tb) (C := CM K) (o := .lst (knw n1 1)) hka
  have hfz : (List.replicate (rs.length : Int).toNat [V.int 0]).flatten = nvs (List.replicate n1 0) := by
    rw [rep_flat, hrn]
    unfold nvs
    rw [List.map_replicate] <;> rfl
  have hfa5 : (upd (upd (upd (upd (upd (upd H a1 (.lst [.int 0])) fa (.lst (List.replicate (rs.length : Int).toNat [V.int 0]).flatten)) a2 (.lst [.bl true])) a3 (.lst [.bl false])) a4 (.lst (List.replicate (n1 - 1) (V.bl false)))) ka (.lst (knw n1 1))) fa = some (.lst (nvs (List.replicate n1 0))) := by
    refine e6.lst (e5.lst (e34.lst ((Ext.new (P := P) (w := w) (tb := tb) (C := CM K) (o := .lst [.bl true]) ha2).lst ?_)))
    rw [upd_same, hfz]
  have nfa : Nw H fa := e1.nw hfa
  have eK := (e4.trans e5).trans e6
  have nka : Nw H ka := (e4.trans e5).nw hka
  have hfk : fa ≠ ka := fun z => by
    have h5 : (upd (upd (upd (upd (upd H a1 (.lst [.int 0])) fa (.lst (List.replicate (rs.length : Int).toNat [V.int 0]).flatten)) a2 (.lst [.bl true])) a3 (.lst [.bl false])) a4 (.lst (List.replicate (n1 - 1) (V.bl false)))) fa = some (.lst (nvs (List.replicate n1 0))) := by
      refine e5.lst (e34.lst ((Ext.new (P := P) (w := w) (tb := tb) (C := CM K) (o := .lst [.bl true]) ha2).lst ?_))
      rw [upd_same, hfz]
    exact ne_of_none h5 hka z
  refine ⟨_, rfl, _, _, dx1, _, _, rfl, eK.ins B1.ob, T.cl, T.no_right, rfl, en_for (xs := rs) (.inl (eK.tup h1)) (fun i σ H' => ∃ y5 y6 y7 y8 acc fl, σ = [some (.ref m1), some (.ref m2), some (.ref va), some (.ref fa), some (.ref ka), y5, y6, y7, y8] ∧ Ext P w tb (CM K) H H' ∧ H' fa = some (.lst (nvs fl)) ∧ H' ka = some (.lst (knw n1 (acc.length + 1))) ∧ fl.length = n1 ∧ (∀ x ∈ fl, x < n2) ∧ VOk BB imgs acc fl ∧ (∀ (j a c : Nat), acc[j]? = some (a, c) → a ≤ j) ∧ treeFrom i (AA.drop i) acc = treeOf AA ∧ scan i (acc.length + 1) (AA.drop i) = some n1)
    ⟨_, _, _, _, [], List.replicate n1 0, rfl, eK, hfa5, upd_same, by simp, fun x hx => by rw [List.eq_of_mem_replicate hx]; exact z2, ⟨by unfold at_; simp [List.getD_eq_getElem?_getD, List.getElem?_replicate]; split <;> rfl, fun j a c h => by simp at h⟩, fun j a c h => by simp at h, rfl, G1.ordd.ord⟩ (fun i σ H' ⟨_, _, _, _, _, _, _, e, _⟩ => by rw [e.tup h1, eK.tup h1]) (fun t σ H' T2 x hx ⟨_, _, _, _, acc, fl, es, e, hf, hk, hfl, hfb, hV, hab, htr, hsc⟩ hT => ?_) fun σ H' ⟨_, _, _, _, acc, fl, es, e, hf, hk, hfl, hfb, hV, hab, htr, hsc⟩ => ?_⟩
  · subst es
    obtain ⟨row, gr, b, rfl, hb⟩ := paired_get' h2 hx
    have en := Ext.new (P := P) (w := w) (tb := tb) (C := CM K) (o := .tup [nv t, .ref b]) hT
    have e' := e.trans en
    rw [drop_get gr] at htr hsc
    obtain ⟨hit, mm, hsr, hsn⟩ := scan_step hsc
    have htn : t < n1 := by
      have := (List.getElem?_eq_some_iff.mp gr).1
      rw [hF.len] at this
      exact this
    have hrl := hF.row t row gr
    refine ⟨_, rfl, en_for (xs := nvs row) (.inl (e'.tup hb)) (fun c σ H' => ∃ y7 y8 acc' fl', σ = [some (.ref m1), some (.ref m2), some (.ref va), some (.ref fa), some (.ref ka), some (nv t), some (.ref b), y7, y8] ∧ Ext P w tb (CM K) H H' ∧ H' fa = some (.lst (nvs fl')) ∧ H' ka = some (.lst (knw n1 (acc'.length + 1))) ∧ fl'.length = n1 ∧ (∀ x ∈ fl', x < n2) ∧ VOk BB imgs acc' fl' ∧ (∀ (j a c : Nat), acc'[j]? = some (a, c) → a ≤ j) ∧ treeRow t c (row.drop c) acc' = treeRow t 0 row acc ∧ scanRow (acc'.length + 1) (row.drop c) = some mm ∧ acc.length ≤ acc'.length)
      ⟨_, _, acc, fl, rfl, e', en.lst hf, en.lst hk, hfl, hfb, hV, hab, rfl, hsr, Nat.le_refl _⟩ (fun i σ H' ⟨_, _, _, _, _, e'', _⟩ => by rw [e''.tup hb, e'.tup hb]) (fun c σ H' T2 x hx ⟨_, _, acc', fl', es, e2, hf', hk', hfl', hfb', hV', hab', htr', hsc', hle'⟩ hT => ?_) fun σ H' ⟨_, _, acc', fl', es, e2, hf', hk', hfl', hfb', hV', hab', htr', hsc', hle'⟩ => ?_⟩
    · subst es
      rw [nvs_get] at hx
      obtain ⟨o, ho, rfl⟩ := Option.map_eq_some_iff.mp hx
      have hon := hF.ent t row gr o (List.mem_of_getElem? ho)
      have hck : c < k1 := by
        have := (List.getElem?_eq_some_iff.mp ho).1
        omega
      rw [drop_get ho] at htr' hsc'
      obtain ⟨s1, s2⟩ := scanRow_step hsc'
      have en2 := Ext.new (P := P) (w := w) (tb := tb) (C := CM K) (o := .tup [nv c, nv o]) hT
      have e3' := e2.trans en2
      have hf3 := en2.lst hf'
      have hk3 := en2.lst hk'
      refine ⟨_, rfl, _, rfl, ka, _, _, _, rfl, rfl, SqL.of hk3, atI_nat (knw_get hon), _, rfl, ?_⟩
      by_cases hom : o = acc'.length + 1
      · have hnk : decide (o < acc'.length + 1) = false := decide_eq_false (by omega)
        rw [hnk]
        refine iteT rfl ?_
        refine ⟨_, rfl, _, rfl, ka, _, _, o, rfl, rfl, hk3, ixN_of (by unfold knw; simp; exact hon), ?_⟩
        have e4' := e3'.mut (o := .lst ((knw n1 (acc'.length + 1)).set o (V.bl true))) nka hk3 rfl
        have hkset : (knw n1 (acc'.length + 1)).set o (V.bl true) = knw n1 (acc'.length + 1 + 1) := by
          rw [hom]
          exact knw_set (by omega)
        rw [hkset] at e4' ⊢
        have hf4 : (upd (upd H' T2 (.tup [nv c, nv o])) ka (.lst (knw n1 (acc'.length + 1 + 1)))) fa = some (.lst (nvs fl')) := by rw [upd_ne hfk]; exact hf3
        have hk4 : (upd (upd H' T2 (.tup [nv c, nv o])) ka (.lst (knw n1 (acc'.length + 1 + 1)))) ka = some (.lst (knw n1 (acc'.length + 1 + 1))) := upd_same
        have htl : t < fl'.length := by omega
        have gft := at_get (r := fl') (i := t) htl
        have hfit : at_ fl' t < n2 := by
          refine hfb' _ ?_
          unfold at_
          rw [List.getD_eq_getElem?_getD, List.getElem?_eq_getElem htl]
          exact List.getElem_mem htl
        obtain ⟨im, him⟩ : ∃ im, imgs[c]? = some im := ⟨_, List.getElem?_eq_getElem (by omega)⟩
        have himn := hin im (List.mem_of_getElem? him)
        refine ⟨_, rfl, m2, dx2, _, rfl, e4'.ins B2.ob, rfl, _, rfl, _, rfl, _, _, _, _, rfl, rfl, SqL.of hf4, atI_nat gft, _, rfl, _, rfl, _, _, _, _, rfl, rfl, SqT.of (e4'.tup hva), atI_nat (v := nv im) (by rw [nvs_get, him]; rfl), ?_⟩
        refine ⟨m2, BB, at_ fl' t, im, rfl, e4'.ok ok, e4'.mon ok m2 BB hM2, by rw [G2l]; exact hfit, by rw [G2l]; exact himn, fun H5 e5' => ?_⟩
        have e6' := e4'.trans e5'
        have hf5 := e5'.lst hf4
        have hk5 := e5'.lst hk4
        have enx : nxM BB imgs (at_ fl' t) c = mul BB (at_ fl' t) im := by
          unfold nxM
          rw [List.getD_eq_getElem?_getD, him] <;> rfl
        refine ⟨_, rfl, _, rfl, fa, _, _, o, rfl, rfl, hf5, ixN_of (by rw [nvs_len]; omega), ?_⟩
        rw [nvs_set]
        have hat : ∀ j, j ≠ o → at_ (fl'.set o (mul BB (at_ fl' t) im)) j = at_ fl' j := fun j hj => by rw [at_set, if_neg (fun z => hj z.1.symm)]
        refine ⟨_, _, acc' ++ [(t, c)], fl'.set o (mul BB (at_ fl' t) im), rfl, e6'.mut nfa hf5 rfl, upd_same, ?_, by simp [hfl'], fun x hx => ?_, ⟨?_, fun j a c' h => ?_⟩, fun j a c' h => ?_, ?_, ?_, ?_⟩
        · rw [upd_ne hfk.symm, List.length_append]
          exact hk5
        · rcases List.mem_or_eq_of_mem_set hx with h | h
          · exact hfb' x h
          · rw [h]
            exact G2.mul_lt hfit himn
        · rw [hat 0 (by omega)]
          exact hV'.z
        · by_cases hj : j < acc'.length
          · rw [List.getElem?_append_left hj] at h
            have := hab' j a c' h
            rw [hat (j + 1) (by omega), hat a (by omega)]
            exact hV'.s j a c' h
          · rw [List.getElem?_append_right (by omega)] at h
            have e0 : j - acc'.length = 0 := by
              have := (List.getElem?_eq_some_iff.mp h).1
              simp at this
              omega
            rw [e0] at h
            simp at h
            obtain ⟨rfl, rfl⟩ := h
            have ej : j = acc'.length := by omega
            subst ej
            rw [hat t (by omega), enx, ← hom, at_set, if_pos ⟨rfl, by omega⟩]
        · by_cases hj : j < acc'.length
          · rw [List.getElem?_append_left hj] at h
            exact hab' j a c' h
          · rw [List.getElem?_append_right (by omega)] at h
            have e0 : j - acc'.length = 0 := by
              have := (List.getElem?_eq_some_iff.mp h).1
              simp at this
              omega
            rw [e0] at h
            simp at h
            omega
        · rw [← htr']
          show treeRow t (c + 1) (row.drop (c + 1)) (acc' ++ [(t, c)]) = treeRow t (c + 1) (row.drop (c + 1)) (if o = acc'.length + 1 then acc' ++ [(t, c)] else acc')
          rw [if_pos hom]
        · rw [if_pos hom] at s2
          rw [List.length_append]
          exact s2
        · simp
          omega
      · have hnk : decide (o < acc'.length + 1) = true := decide_eq_true (by omega)
        rw [hnk]
        refine iteF rfl ?_
        rw [if_neg hom] at s2
        refine ⟨_, _, acc', fl', rfl, e3', hf3, hk3, hfl', hfb', hV', hab', ?_, s2, hle'⟩
        rw [← htr']
        show treeRow t (c + 1) (row.drop (c + 1)) acc' = treeRow t (c + 1) (row.drop (c + 1)) (if o = acc'.length + 1 then acc' ++ [(t, c)] else acc')
        rw [if_neg hom]
    · subst es
      rw [nvs_len, List.drop_length] at htr' hsc'
      have em : acc'.length + 1 = mm := Option.some.inj hsc'
      refine ⟨_, _, _, _, acc', fl', rfl, e2, hf', hk', hfl', hfb', hV', hab', ?_, by rw [em]; exact hsn⟩
      rw [← htr]
      show treeFrom (t + 1) (AA.drop (t + 1)) acc' = treeFrom (t + 1) (AA.drop (t + 1)) (treeRow t 0 row acc)
      rw [← htr'] <;> rfl
  · subst es
    have hlr : rs.length = AA.length := paired_len h2
    rw [hlr, List.drop_length] at htr
    have htr' : acc = treeOf AA := htr
    subst htr'
    exact ⟨_, rfl, q H' fa fl e nfa hf hfl hfb (hV.img G1.ordd)⟩
end
end K95
set_option Elab.async false
set_option linter.all false
set_option maxRecDepth 100000
set_option maxHeartbeats 4000000
set_option autoImplicit false
namespace K95
open PySem PySem.Spec PyProof.Rows L2
section
variable {P : Program} {w : World} {K : PySem.W.Frag} {mg : Str → Option Value} {base : Heap} {tb : Tbs}
def HomFl (A B : Tab) (n k : Nat) (imgs fl : List Nat) : Prop := ∀ x c, x < n → c < k → nxM B imgs (at_ fl x) c = at_ fl (step A x c)
def spBroken (P : Program) (w : World) (tb : Tbs) (K : PySem.W.Frag) : Sp := fun vs H Q _ => ∃ (m1 m2 p : Addr) (v : V) (A B : Tab) (n1 k1 n2 k2 : Nat) (imgs fl : List Nat), vs = [.ref m1, .ref m2, v, .ref p] ∧ Okk tb (CM K) H ∧ MonAt P w (CM K) H m1 A ∧ MonAt P w (CM K) H m2 B ∧ Good A n1 k1 ∧ Good B n2 k2 ∧ IntTup H v imgs ∧ imgs.length = k1 ∧ (∀ x ∈ imgs, x < n2) ∧ H p = some (.lst (nvs fl)) ∧ fl.length = n1 ∧ (∀ x ∈ fl, x < n2) ∧
  ∀ H' v, Ext P w tb (CM K) H H' → (v = .non ∧ HomFl A B n1 k1 imgs fl ∨ (∃ a, v = .ref a) ∧ ¬ HomFl A B n1 k1 imgs fl) → Q v H'
theorem sc_d_first_broken : FnScope ["one", "other", "images", "values", "number", "row", "letter", "later"] ["one", "other", "images", "values"] d_first_broken.scope := ⟨rfl, rfl, rfl, by decide +kernel, rfl, by decide +kernel, by decide +kernel⟩
theorem go_first_broken (T : Txt K mg) : Go P w K mg base "first_broken" ["one", "other", "images", "values"] 5 (spBroken P w tb K) := by
  obtain ⟨fd, F⟩ := T.fn 32
  obtain ⟨fd_times, b_times, G_times⟩ := go_times (P := P) (w := w) (base := base) (tb := tb) T
  refine ⟨_, fd, T.g_first_broken, F.kp, F.bindsN (fun _ _ _ _ _ _ us hl => match us, hl with | [_, _, _, _], _ => rfl), okN F sc_d_first_broken (fun vs H Q E h => by
    obtain ⟨_, _, _, _, _, _, _, _, _, _, _, _, rfl, _⟩ := h
    rfl) (fun cdv A outer s H vs Q E rm h => ?_)⟩
  obtain ⟨m1, m2, pf, v, AA, BB, n1, k1, n2, k2, imgs, fl, rfl, ok, hM1, hM2, G1, G2, ⟨va, rfl, hva⟩, hil, hin, hf, hfl, hfb, q⟩ := h
  have hM1' := hM1
  have hM2' := hM2
  obtain ⟨_, dx1, r1, t1, l1, d1, B1, _⟩ := hM1'
  obtain ⟨_, dx2, r2, t2, l2, d2, B2, _⟩ := hM2'
  obtain ⟨rs, h1, h2⟩ := B1.right
  have hF := G1.form
  have G2l := G2.form.len
  have hrn : rs.length = n1 := by rw [paired_len h2, hF.len]
  refine ⟨_, (pss_cons (ps_for PassesOwn.never rfl (pi_enumA (by rfl) T.n_enumerate (pa_cons (pe_fld (pv 0) rfl) pa_nil)) (pg_tup (n := 2) rfl (pgs_cons (pg_name (i := 4) sc_d_first_broken.nd rfl (Or.inl rfl)) (pgs_cons (pg_name (i := 5) sc_d_first_broken.nd rfl (Or.inl rfl)) pgs_nil)))
      (pss_one (ps_for PassesOwn.never rfl (pi_enumA (by rfl) T.n_enumerate (pa_cons (pv 5) pa_nil)) (pg_tup (n := 2) rfl (pgs_cons (pg_name (i := 6) sc_d_first_broken.nd rfl (Or.inl rfl)) (pgs_cons (pg_name (i := 7) sc_d_first_broken.nd rfl (Or.inl rfl)) pgs_nil)))
      (pss_one (ps_if (pt_cmpR (op_ne) (pe_meth (pv 1) T.cl T.m_times G_times (rm.mono (by decide)) b_times .nil pass0 (pa_cons (pe_ix ix_list (pv 3) (pv 4) (fun _ _ => rfl)) (pa_cons (pe_ix ix_tup (pv 2) (pv 6) (fun _ _ => rfl)) pa_nil))) (pe_ix ix_list (pv 3) (pv 7) (fun _ _ => rfl)) (nomark _)) (pss_one (ps_ret (pe_tup (pa_cons (pv 4) (pa_cons (pv 6) pa_nil))))) pss_nil)))))
      (pss_one (ps_ret pe_non))), ?_⟩
  refine ⟨_, rfl, _, _, dx1, _, _, rfl, B1.ob, T.cl, T.no_right, rfl, en_for (xs := rs) (.inl h1) (fun i σ H' => ∃ y4 y5 y6 y7, σ = [some (.ref m1), some (.ref m2), some (.ref va), some (.ref pf), y4, y5, y6, y7] ∧ Ext P w tb (CM K) H H' ∧ ∀ x c, x < i → x < n1 → c < k1 → nxM BB imgs (at_ fl x) c = at_ fl (step AA x c))
    ⟨_, _, _, _, rfl, .refl _, fun x c hx => by omega⟩ (fun i σ H' ⟨_, _, _, _, _, e, _⟩ => by rw [e.tup h1, h1]) (fun t σ H' T2 x hx ⟨_, _, _, _, es, e, hh⟩ hT => ?_) fun σ H' ⟨_, _, _, _, es, e, hh⟩ => ?_⟩
  · subst es
    obtain ⟨row, gr, b, rfl, hb⟩ := paired_get' h2 hx
    have en := Ext.new (P := P) (w := w) (tb := tb) (C := CM K) (o := .tup [nv t, .ref b]) hT
    have e' := e.trans en
    have htn : t < n1 := by
      have := (List.getElem?_eq_some_iff.mp gr).1
      rw [hF.len] at this
      exact this
    have hrl := hF.row t row gr
    refine ⟨_, rfl, en_for (xs := nvs row) (.inl (e'.tup hb)) (fun c σ H' => ∃ y6 y7, σ = [some (.ref m1), some (.ref m2), some (.ref va), some (.ref pf), some (nv t), some (.ref b), y6, y7] ∧ Ext P w tb (CM K) H H' ∧ ∀ c', c' < c → c' < k1 → nxM BB imgs (at_ fl t) c' = at_ fl (step AA t c'))
      ⟨_, _, rfl, e', fun c' hc => by omega⟩ (fun i σ H' ⟨_, _, _, e'', _⟩ => by rw [e''.tup hb, e'.tup hb]) (fun c σ H' T2 x hx ⟨_, _, es, e2, hh2⟩ hT => ?_) fun σ H' ⟨_, _, es, e2, hh2⟩ => ?_⟩
    · subst es
      rw [nvs_get] at hx
      obtain ⟨o, ho, rfl⟩ := Option.map_eq_some_iff.mp hx
      have hon := hF.ent t row gr o (List.mem_of_getElem? ho)
      have hck : c < k1 := by
        have := (List.getElem?_eq_some_iff.mp ho).1
        omega
      have en2 := Ext.new (P := P) (w := w) (tb := tb) (C := CM K) (o := .tup [nv c, nv o]) hT
      have e3' := e2.trans en2
      have hf3 := e3'.lst hf
      have gft := at_get (r := fl) (i := t) (by omega)
      have gfo := at_get (r := fl) (i := o) (by omega)
      have hfit : at_ fl t < n2 := by
        refine hfb _ ?_
        unfold at_
        rw [List.getD_eq_getElem?_getD, List.getElem?_eq_getElem (by omega)]
        exact List.getElem_mem (by omega)
      obtain ⟨im, him⟩ : ∃ im, imgs[c]? = some im := ⟨_, List.getElem?_eq_getElem (by omega)⟩
      have himn := hin im (List.mem_of_getElem? him)
      have est : step AA t c = o := by
        unfold step
        rw [List.getD_eq_getElem?_getD (l := AA), gr]
        show (row.getD c 0) = o
        rw [List.getD_eq_getElem?_getD, ho] <;> rfl
      have enx : nxM BB imgs (at_ fl t) c = mul BB (at_ fl t) im := by
        unfold nxM
        rw [List.getD_eq_getElem?_getD, him] <;> rfl
      refine ⟨_, rfl, m2, dx2, _, rfl, e3'.ins B2.ob, rfl, _, rfl, _, rfl, _, _, _, _, rfl, rfl, SqL.of hf3, atI_nat gft, _, rfl, _, rfl, _, _, _, _, rfl, rfl, SqT.of (e3'.tup hva), atI_nat (v := nv im) (by rw [nvs_get, him]; rfl), ?_⟩
      refine ⟨m2, BB, at_ fl t, im, rfl, e3'.ok ok, e3'.mon ok m2 BB hM2, by rw [G2l]; exact hfit, by rw [G2l]; exact himn, fun H5 e5' => ?_⟩
      have e6' := e3'.trans e5'
      have hf5 := e6'.lst hf
      refine ⟨_, rfl, _, rfl, _, _, _, _, rfl, rfl, SqL.of hf5, atI_nat gfo, ?_⟩
      have e7' := e6'
      by_cases hmo : mul BB (at_ fl t) im = at_ fl o
      · refine ⟨rfl, _, rfl, iteF (by rw [hmo]; simp) ?_⟩
        refine ⟨_, _, rfl, e6', fun c' hc hk' => ?_⟩
        by_cases hcc : c' < c
        · exact hh2 c' hcc hk'
        · have : c' = c := by omega
          subst this
          rw [enx, est]
          exact hmo
      · refine ⟨rfl, _, rfl, iteT (by simp; exact fun z => hmo (Int.ofNat.inj (V.int.inj z))) ?_⟩
        refine ⟨_, rfl, _, rfl, (by show 2 ≤ sizeLine; decide), fun a9 ha9 => q _ _ (e6'.trans (Ext.new (P := P) (w := w) (tb := tb) (C := CM K) ha9)) (.inr ⟨⟨_, rfl⟩, fun hom => ?_⟩)⟩
        have h9 := hom t c htn hck
        rw [enx, est] at h9
        exact hmo h9
    · subst es
      refine ⟨_, _, _, _, rfl, e2, fun x c hx hxn hck => ?_⟩
      by_cases hxt : x < t
      · exact hh x c hxt hxn hck
      · have : x = t := by omega
        subst this
        exact hh2 c (by rw [nvs_len]; omega) hck
  · subst es
    exact q _ _ e (.inl ⟨rfl, fun x c hx hc => hh x c (by omega) hx hc⟩)
end
end K95
set_option Elab.async false
set_option linter.all false
set_option maxRecDepth 100000
set_option maxHeartbeats 4000000
set_option autoImplicit false
namespace K95
open PySem PySem.Spec PyProof.Rows L2
theorem dedup_len {α : Type} [DecidableEq α] : ∀ M : List α, ∃ M' : List α, M'.Nodup ∧ (∀ k, k ∈ M' ↔ k ∈ M) ∧ (M'.length < M.length ∨ M.Nodup)
  | [] => ⟨[], .nil, fun _ => Iff.rfl, .inr .nil⟩
  | a :: M => by
    obtain ⟨M', h1, h2, h3⟩ := dedup_len M
    by_cases ha : a ∈ M
    · refine ⟨M', h1, fun k => ?_, .inl ?_⟩
      · rw [h2 k, List.mem_cons]
        refine ⟨.inr, fun h => ?_⟩
        rcases h with rfl | h
        · exact ha
        · exact h
      · have := nodup_len h1 (fun x hx => (h2 x).mp hx)
        simp
        omega
    · refine ⟨a :: M', List.nodup_cons.mpr ⟨fun h => ha ((h2 a).mp h), h1⟩, fun k => by rw [List.mem_cons, List.mem_cons, h2 k], ?_⟩
      rcases h3 with h | h
      · left
        simp
        omega
      · exact .inr (List.nodup_cons.mpr ⟨ha, h⟩)
theorem nodup_iff_len {α : Type} [DecidableEq α] {L M : List α} (hL : L.Nodup) (h : ∀ k, k ∈ L ↔ k ∈ M) : L.length = M.length ↔ M.Nodup := by
  constructor
  · intro e
    obtain ⟨M', h1, h2, h3⟩ := dedup_len M
    rcases h3 with h3 | h3
    · have := nodup_len hL (m := M') (fun x hx => (h2 x).mpr ((h x).mp hx))
      omega
    · exact h3
  · intro hM
    have a := nodup_len hL (m := M) fun x hx => (h x).mp hx
    have b := nodup_len hM (m := L) fun x hx => (h x).mpr hx
    omega
noncomputable def isoO (A B : Tab) (n1 n2 k1 : Nat) : Option (List Nat) := if n1 = n2 then (rowsL n2 k1).find? (isoB A B n1 k1) else none
section
variable {P : Program} {w : World} {K : PySem.W.Frag} {mg : Str → Option Value} {base : Heap} {tb : Tbs}
def spSearch (P : Program) (w : World) (tb : Tbs) (K : PySem.W.Frag) : Sp := fun vs H Q _ => ∃ (m1 m2 : Addr) (A B : Tab) (n1 k1 n2 k2 : Nat), vs = [.ref m1, .ref m2] ∧ MonAt P w (CM K) H m1 A ∧ MonAt P w (CM K) H m2 B ∧ Good A n1 k1 ∧ Good B n2 k2 ∧ n1 * k1 * n2 ^ k1 ≤ 500000 ∧ Q .non H
theorem sc_d_check_search : FnScope ["one", "other", "many", "letter"] ["one", "other"] d_check_search.scope := ⟨rfl, rfl, rfl, by decide +kernel, rfl, by decide +kernel, by decide +kernel⟩
theorem go_check_search (T : Txt K mg) : Go P w K mg base "check_search" ["one", "other"] 1 (spSearch P w tb K) := by
  obtain ⟨fd, F⟩ := T.fn 33
  obtain ⟨t_MOST_SEARCHED_morphisms, h_MOST_SEARCHED_morphisms⟩ := T.i_MOST_SEARCHED_morphisms
  refine ⟨_, fd, T.g_check_search, F.kp, F.bindsN (fun _ _ _ _ _ _ us hl => match us, hl with | [_, _], _ => rfl), okN F sc_d_check_search (fun vs H Q E h => by
    obtain ⟨_, _, _, _, _, _, _, _, rfl, _⟩ := h
    rfl) (fun cdv A outer s H vs Q E rm h => ?_)⟩
  obtain ⟨m1, m2, AA, BB, n1, k1, n2, k2, rfl, hM1, hM2, G1, G2, hmany, q⟩ := h
  obtain ⟨_, dx1, r1, t1, l1, d1, B1, _⟩ := hM1
  obtain ⟨_, dx2, r2, t2, l2, d2, B2, _⟩ := hM2
  obtain ⟨rs1, a11, a12⟩ := B1.right
  obtain ⟨rs2, a21, a22⟩ := B2.right
  have z1 := G1.form.n1
  have z2 := G2.form.n1
  have zn1 := G1.form.n2
  have zk := G1.form.k2
  have zn := G2.form.n2
  have ln1 : rs1.length = n1 := by rw [paired_len a12, G1.form.len]
  have ln2 : rs2.length = n2 := by rw [paired_len a22, G2.form.len]
  obtain ⟨row0, g1, g2, _⟩ := G1.form.at (x := 0) z1
  obtain ⟨v0, g3, b0, rfl, g4⟩ := paired_get a12 g1
  have big : ∀ i, i ≤ k1 → n1 * k1 * n2 ^ i ≤ 500000 := fun i hi => Nat.le_trans (Nat.mul_le_mul_left _ (Nat.pow_le_pow_right z2 hi)) hmany
  refine ⟨_, (pss_cons (ps_set (i := 2) sc_d_check_search.nd rfl (Or.inl rfl) (pe_op op_mul (pe_callB call_len_seq (by rfl) T.n_len boot_len (pa_cons (pe_fld (pv 0) rfl) pa_nil)) (pe_callB call_len_seq (by rfl) T.n_len boot_len (pa_cons (pe_ix ix_tup (pe_fld (pv 0) rfl) pe_int (fun _ _ => rfl)) pa_nil))))
      (pss_cons (ps_for PassesOwn.never rfl (pi_tup (pe_ix ix_tup (pe_fld (pv 0) rfl) pe_int (fun _ _ => rfl))) (pg_name (i := 3) sc_d_check_search.nd rfl (Or.inl rfl))
      (pss_one (ps_set (i := 2) sc_d_check_search.nd rfl (Or.inl rfl) (pe_op op_mul (pv 2) (pe_callB call_len_seq (by rfl) T.n_len boot_len (pa_cons (pe_fld (pv 1) rfl) pa_nil))))))
      (pss_one (ps_if (pt_cmpR (op_gt) (pv 2) (pe_glob (v := .int 500000) rfl h_MOST_SEARCHED_morphisms ⟨_, rfl⟩) (nomark _)) (pss_one (ps_never)) pss_nil)))), ?_⟩
  refine ⟨_, rfl, _, _, dx1, _, _, rfl, B1.ob, T.cl, T.no_right, rfl, _, _, rfl, .inr (SqT.of a11), _, rfl, _, _, dx1, _, _, rfl, B1.ob, T.cl, T.no_right, rfl, _, _, _, _, rfl, rfl, SqT.of a11, atI_nat (j := 0) g3, _, _, rfl, .inr (SqT.of g4), _, _, rfl, rfl, .inl ⟨by omega, by omega⟩, ?_⟩
  refine ⟨_, rfl, _, _, dx1, _, _, rfl, B1.ob, T.cl, T.no_right, rfl, _, _, _, _, rfl, rfl, SqT.of a11, atI_nat (j := 0) g3, _, rfl, ⟨_, SqT.of g4⟩, for_it (walk_tup (xs := nvs row0)) (fun i σ H' => ∃ y3, σ = [some (.ref m1), some (.ref m2), some (.int ((n1 * k1 * n2 ^ i : Nat) : Int)), y3] ∧ H' = H) ⟨none, ?_, rfl⟩ (fun i σ H' _ ⟨_, _, e⟩ => by rw [e]; exact SqT.of g4) (fun i x σ H' H6 hi ⟨y3, es, eH⟩ hy => ?_) fun σ H' ⟨y3, es, eH⟩ => ?_⟩
  · rw [nvs_len, g2, ln1, Nat.pow_zero, Nat.mul_one, Int.natCast_mul]
    rfl
  · obtain ⟨rfl, hx⟩ := hy
    subst es eH
    rw [nvs_get] at hx
    obtain ⟨o, ho, rfl⟩ := Option.map_eq_some_iff.mp hx
    have hi' : i < k1 := by
      have := (List.getElem?_eq_some_iff.mp ho).1
      omega
    have hb := big i (by omega)
    refine ⟨_, rfl, _, rfl, _, _, dx2, _, _, rfl, B2.ob, T.cl, T.no_right, rfl, _, _, rfl, .inr (SqT.of a21), _, _, rfl, rfl, .inl ⟨by omega, by omega⟩, ?_⟩
    refine ⟨some (nv o), ?_, rfl⟩
    rw [ln2]
    show [_, _, some (V.int (((n1 * k1 * n2 ^ i : Nat) : Int) * (n2 : Int))), some (nv o)] = _
    rw [← Int.natCast_mul, Nat.mul_assoc, ← Nat.pow_succ]
  · subst es eH
    refine ⟨_, rfl, _, _, rfl, rfl, _, rfl, iteF (decide_eq_false ?_) q⟩
    have h5 : ((n1 * k1 * n2 ^ (nvs row0).length : Nat) : Int) ≤ ((500000 : Nat) : Int) := Int.ofNat_le.mpr (by rw [nvs_len, g2]; exact hmany)
    show ¬ (500000 : Int) < ((n1 * k1 * n2 ^ (nvs row0).length : Nat) : Int)
    exact Int.not_lt.mpr h5
def spIso (P : Program) (w : World) (tb : Tbs) (K : PySem.W.Frag) : Sp := fun vs H Q _ => ∃ (m1 m2 : Addr) (A B : Tab) (n1 k1 n2 k2 : Nat), vs = [.ref m1, .ref m2] ∧ Okk tb (CM K) H ∧ MonAt P w (CM K) H m1 A ∧ MonAt P w (CM K) H m2 B ∧ Good A n1 k1 ∧ Good B n2 k2 ∧ (n1 = n2 → n1 * k1 * n2 ^ k1 ≤ 500000 ∧ n2 ^ k1 ≤ 10000) ∧
  ∀ H' v, Ext P w tb (CM K) H H' → DivR H' v (isoO A B n1 n2 k1) → Q v H'
theorem sc_d_isomorphism : FnScope ["one", "other", "images", "values"] ["one", "other"] d_isomorphism.scope := ⟨rfl, rfl, rfl, by decide +kernel, rfl, by decide +kernel, by decide +kernel⟩
theorem go_isomorphism (T : Txt K mg) : Go P w K mg base "isomorphism" ["one", "other"] 6 (spIso P w tb K) := by
  obtain ⟨fd, F⟩ := T.fn 35
  obtain ⟨f_all_rows, fd_all_rows, m_all_rows, k_all_rows, b_all_rows, G_all_rows⟩ := go_all_rows (P := P) (w := w) (base := base) (tb := tb) T
  obtain ⟨f_first_broken, fd_first_broken, m_first_broken, k_first_broken, b_first_broken, G_first_broken⟩ := go_first_broken (P := P) (w := w) (base := base) (tb := tb) T
  obtain ⟨f_values_by_words, fd_values_by_words, m_values_by_words, k_values_by_words, b_values_by_words, G_values_by_words⟩ := go_values_by_words (P := P) (w := w) (base := base) (tb := tb) T
  obtain ⟨f_check_search, fd_check_search, m_check_search, k_check_search, b_check_search, G_check_search⟩ := go_check_search (P := P) (w := w) (base := base) (tb := tb) T
  obtain ⟨f_checked, fd_checked, m_checked, k_checked, b_checked, G_checked⟩ := go_checked (P := P) (w := w) (base := base)  T
  refine ⟨_, fd, T.g_isomorphism, F.kp, F.bindsN (fun _ _ _ _ _ _ us hl => match us, hl with | [_, _], _ => rfl), okN F sc_d_isomorphism (fun vs H Q E h => by
    obtain ⟨_, _, _, _, _, _, _, _, rfl, _⟩ := h
    rfl) (fun cdv A outer s H vs Q E rm h => ?_)⟩
  obtain ⟨m1, m2, AA, BB, n1, k1, n2, k2, rfl, ok, hM1, hM2, G1, G2, hmany, q⟩ := h
  have hM1' := hM1
  have hM2' := hM2
  obtain ⟨_, dx1, r1, t1, l1, d1, B1, _⟩ := hM1'
  obtain ⟨_, dx2, r2, t2, l2, d2, B2, _⟩ := hM2'
  obtain ⟨rs1, a11, a12⟩ := B1.right
  obtain ⟨rs2, a21, a22⟩ := B2.right
  have z1 := G1.form.n1
  have z2 := G2.form.n1
  have zk := G1.form.k2
  have zn := G2.form.n2
  have zn1 := G1.form.n2
  have ln1 : rs1.length = n1 := by rw [paired_len a12, G1.form.len]
  have ln2 : rs2.length = n2 := by rw [paired_len a22, G2.form.len]
  obtain ⟨row0, g1, g2, _⟩ := G1.form.at (x := 0) z1
  obtain ⟨v0, g3, b0, rfl, g4⟩ := paired_get a12 g1
  refine ⟨_, (pss_cons (ps_expr (pe_call G_checked (rm.mono (by decide)) rfl m_checked k_checked b_checked .nil pass0 (pa_cons (pv 0) pa_nil)))
      (pss_cons (ps_expr (pe_call G_checked (rm.mono (by decide)) rfl m_checked k_checked b_checked .nil pass0 (pa_cons (pv 1) pa_nil)))
      (pss_cons (ps_if (pt_cmpR (op_ne) (pe_callB call_len_seq (by rfl) T.n_len boot_len (pa_cons (pe_fld (pv 0) rfl) pa_nil)) (pe_callB call_len_seq (by rfl) T.n_len boot_len (pa_cons (pe_fld (pv 1) rfl) pa_nil)) (nomark _)) (pss_one (ps_ret pe_non)) pss_nil)
      (pss_cons (ps_expr (pe_call G_check_search (rm.mono (by decide)) rfl m_check_search k_check_search b_check_search .nil pass0 (pa_cons (pv 0) (pa_cons (pv 1) pa_nil))))
      (pss_cons (ps_for PassesOwn.never rfl (pi_list (pe_call G_all_rows (rm.mono (by decide)) rfl m_all_rows k_all_rows b_all_rows .nil pass0 (pa_cons (pe_callB call_len_seq (by rfl) T.n_len boot_len (pa_cons (pe_fld (pv 1) rfl) pa_nil)) (pa_cons (pe_callB call_len_seq (by rfl) T.n_len boot_len (pa_cons (pe_ix ix_tup (pe_fld (pv 0) rfl) pe_int (fun _ _ => rfl)) pa_nil)) pa_nil)))) (pg_name (i := 2) sc_d_isomorphism.nd rfl (Or.inl rfl))
      (pss_cons (ps_set (i := 3) sc_d_isomorphism.nd rfl (Or.inl rfl) (pe_call G_values_by_words (rm.mono (by decide)) rfl m_values_by_words k_values_by_words b_values_by_words .nil pass0 (pa_cons (pv 0) (pa_cons (pv 1) (pa_cons (pv 2) pa_nil)))))
      (pss_one (ps_if (PW.pt (pw_and (pt_cmpR (op_eq) (pe_lenSet' rfl T.n_len rfl T.n_set (pv 3)) (pe_callB call_len_seq (by rfl) T.n_len boot_len (pa_cons (pv 3) pa_nil)) (nomark _)) (pw_and1 (pt_cmpR (op_isN) (pe_call G_first_broken (rm.mono (by decide)) rfl m_first_broken k_first_broken b_first_broken .nil pass0 (pa_cons (pv 0) (pa_cons (pv 1) (pa_cons (pv 2) (pa_cons (pv 3) pa_nil))))) pe_non (nomark _))))) (pss_one (ps_ret (pv 2))) pss_nil))))
      (pss_one (ps_ret pe_non))))))), ?_⟩
  refine ⟨_, rfl, m1, dx1, _, rfl, B1.ob, ?_⟩
  refine ⟨_, rfl, m2, dx2, _, rfl, B2.ob, ?_⟩
  refine ⟨_, rfl, _, _, dx1, _, _, rfl, B1.ob, T.cl, T.no_right, rfl, _, _, rfl, .inr (SqT.of a11), _, rfl, _, _, dx2, _, _, rfl, B2.ob, T.cl, T.no_right, rfl, _, _, rfl, .inr (SqT.of a21), rfl, _, rfl, ?_⟩
  rw [ln1, ln2]
  by_cases hnn : n1 = n2
  · obtain ⟨hm1, hm2⟩ := hmany hnn
    subst hnn
    refine iteF (by simp) ?_
    refine ⟨_, rfl, _, rfl, m1, m2, AA, BB, n1, k1, n1, k2, rfl, hM1, hM2, G1, G2, hm1, ?_⟩
    refine ⟨_, rfl, _, _, dx2, _, _, rfl, B2.ob, T.cl, T.no_right, rfl, _, _, rfl, .inr (SqT.of a21), _, rfl, _, _, dx1, _, _, rfl, B1.ob, T.cl, T.no_right, rfl, _, _, _, _, rfl, rfl, SqT.of a11, atI_nat (j := 0) g3, _, _, rfl, .inr (SqT.of g4), n1, k1, by rw [ln2, nvs_len, g2]; rfl, z2, hm2, by omega, by omega, fun H1 p vs' e1 hp hpd => ?_⟩
    refine ⟨p, rfl, ⟨_, SqL.of hp⟩, for_it (walk_list (xs := vs')) (fun i σ H' => ∃ y2 y3, σ = [some (.ref m1), some (.ref m2), y2, y3] ∧ Ext P w tb (CM K) H1 H' ∧ ∀ (j : Nat) r, j < i → (rowsL n1 k1)[j]? = some r → isoB AA BB n1 k1 r = false) ⟨none, none, rfl, .refl _, fun j r hj => by omega⟩ (fun i σ H' _ ⟨_, _, _, e, _⟩ => SqL.of (e.lst hp)) (fun i x σ H' H6 hi ⟨y2, y3, es, e, hno⟩ hy => ?_) fun σ H' ⟨y2, y3, es, e, hno⟩ => ?_⟩
    · obtain ⟨rfl, hx⟩ := hy
      subst es
      obtain ⟨r, gr, hr⟩ := paired_get' hpd hx
      obtain ⟨hrl, hrn⟩ := rowsL_mem.mp (List.mem_of_getElem? gr)
      have eA := e1.trans e
      have hnot : isoB AA BB n1 k1 r = false → ∀ (j : Nat) s, j < i + 1 → (rowsL n1 k1)[j]? = some s → isoB AA BB n1 k1 s = false := fun hf j s hj hs => by
        by_cases hji : j < i
        · exact hno j s hji hs
        · have : j = i := by omega
          subst this
          rw [gr] at hs
          cases hs
          exact hf
      refine ⟨_, rfl, _, rfl, _, rfl, m1, m2, x, AA, BB, n1, k1, n1, k2, r, rfl, eA.ok ok, eA.mon ok m1 AA hM1, eA.mon ok m2 BB hM2, G1, G2, hr.ext e, hrl, hrn, fun H7 pf fl e7 nf hf hfl hfb hfi => ?_⟩
      have eB := eA.trans e7
      refine ⟨_, rfl, pf, fl.map fun x : Nat => (x : Int), rfl, .inl (SqL.of (by rw [hf]; unfold nvs; rw [List.map_map]; rfl)), by rw [List.length_map]; omega, fun L hL1 hL2 => ?_⟩
      have hLM := nodup_iff_len hL1 hL2
      rw [List.length_map] at hLM
      have hfm : (List.range n1).map (img AA BB r) = fl := by
        refine List.ext_getElem? fun j => ?_
        by_cases hj : j < n1
        · rw [List.getElem?_map, List.getElem?_range hj]
          show some (img AA BB r j) = _
          rw [← hfi j hj]
          unfold at_
          rw [List.getD_eq_getElem?_getD, List.getElem?_eq_getElem (by omega)] <;> rfl
        · rw [List.getElem?_eq_none (by simp; omega), List.getElem?_eq_none (by omega)]
      have hnd : (fl.map fun x : Nat => (x : Int)).Nodup ↔ fl.Nodup := ⟨fun h => (List.pairwise_map.mp h).imp fun hh z => hh (by rw [z]), fun h => nodup_map_on (fun a _ b _ e => Int.ofNat.inj e) h⟩
      refine ⟨_, rfl, _, _, rfl, .inl (SqL.of hf), rfl, ?_⟩
      by_cases hlen : L.length = fl.length
      · have hN := hnd.mp (hLM.mp hlen)
        refine ⟨true, by rw [nvs_len, hlen]; simp, ?_⟩
        refine ⟨_, rfl, _, rfl, _, rfl, _, rfl, m1, m2, pf, x, AA, BB, n1, k1, n1, k2, r, fl, rfl, eB.ok ok, eB.mon ok m1 AA hM1, eB.mon ok m2 BB hM2, G1, G2, (hr.ext e).ext e7, hrl, hrn, hf, hfl, hfb, fun H8 v e8 hv => ?_⟩
        rcases hv with ⟨rfl, hom⟩ | ⟨⟨a, rfl⟩, hom⟩
        · refine ⟨rfl, true, rfl, iteT rfl ?_⟩
          refine ⟨_, rfl, q H8 x (eB.trans e8) ?_⟩
          unfold isoO
          rw [if_pos rfl, find_at gr (isoB_true ⟨?_, ?_⟩) hno]
          · exact ((hr.ext e).ext e7).ext e8
          · rw [hfm]
            exact hN
          · intro x c hx hc
            rw [← hfi x hx, ← hfi _ (G1.form.step_lt hx hc)]
            exact hom x c hx hc
        · refine ⟨rfl, false, rfl, iteF rfl ?_⟩
          refine ⟨_, _, rfl, (e.trans e7).trans e8, hnot (isoB_false fun hI => hom fun x c hx hc => ?_)⟩
          rw [hfi x hx, hfi _ (G1.form.step_lt hx hc)]
          exact hI.hom x c hx hc
      · refine ⟨false, by rw [nvs_len]; simp; exact fun z => hlen (Int.ofNat.inj z), ?_⟩
        refine iteF rfl ⟨_, _, rfl, e.trans e7, hnot (isoB_false fun hI => hlen ?_)⟩
        have h9 := hI.inj
        rw [hfm] at h9
        exact hLM.mpr (hnd.mpr h9)
    · subst es
      refine q _ _ (e1.trans e) ?_
      unfold isoO
      rw [if_pos rfl, find_no fun j r hr => hno j r (by rw [paired_len hpd]; exact (List.getElem?_eq_some_iff.mp hr).1) hr]
      rfl
  · refine iteT (by simp; exact fun z => hnn (Int.ofNat.inj z)) ?_
    refine q _ _ (.refl _) ?_
    unfold isoO
    rw [if_neg hnn]
    rfl
end
end K95
set_option Elab.async false
set_option linter.all false
set_option maxRecDepth 100000
set_option maxHeartbeats 4000000
set_option autoImplicit false
/-! sorted(found, key=lattice_key) -/
namespace K95
open PySem PySem.Spec PyProof.Rows L2 PySem.W
/-- the different ones -/
def ddN : List Nat → List Nat
  | [] => []
  | a :: l => if a ∈ l then ddN l else a :: ddN l
theorem dd_mem : ∀ (l : List Nat) (k : Nat), k ∈ ddN l ↔ k ∈ l
  | [], k => Iff.rfl
  | a :: l, k => by
    unfold ddN
    split
    · rename_i h
      rw [dd_mem l k, List.mem_cons]
      exact ⟨.inr, fun h2 => h2.elim (fun e => e ▸ h) id⟩
    · rw [List.mem_cons, List.mem_cons, dd_mem l k]
theorem dd_nodup : ∀ l : List Nat, (ddN l).Nodup
  | [] => .nil
  | a :: l => by
    unfold ddN
    split
    · exact dd_nodup l
    · rename_i h
      exact List.nodup_cons.mpr ⟨fun h2 => h ((dd_mem l a).mp h2), dd_nodup l⟩
theorem dd_int {l : List Nat} {L : List Int} (hL : L.Nodup) (h : ∀ k, k ∈ L ↔ k ∈ l.map fun x : Nat => (x : Int)) : L.length = (ddN l).length := by
  have h2 : ((ddN l).map fun x : Nat => (x : Int)).Nodup := nodup_map_on (fun a _ b _ e => Int.ofNat.inj e) (dd_nodup l)
  have h3 : ∀ k, k ∈ (ddN l).map (fun x : Nat => (x : Int)) ↔ k ∈ l.map fun x : Nat => (x : Int) := fun k => by
    rw [List.mem_map, List.mem_map]
    constructor
    · rintro ⟨x, hx, e⟩; exact ⟨x, (dd_mem l x).mp hx, e⟩
    · rintro ⟨x, hx, e⟩; exact ⟨x, (dd_mem l x).mpr hx, e⟩
  have a := nodup_len hL (m := (ddN l).map fun x : Nat => (x : Int)) fun x hx => (h3 x).mpr ((h x).mp hx)
  have b := nodup_len h2 (m := L) fun x hx => (h x).mpr ((h3 x).mp hx)
  rw [List.length_map] at a b
  omega
/-- a congruence's key -/
def kdL (l : List Nat) : PyData := .tuple [.int (-((ddN l).length : Int)), .tuple (l.map fun x : Nat => .int (x : Int))]
theorem ld_var {X : Cx} {pins : List (Addr × Obj)} {s : Shared} {σ : L2.St} {H : Hp} {E : Value → Shared → Prop} {Q : Value → Shared → Prop} {i : Nat} {x : Str} {v : V} {pos : Pos} (I : Inv X pins σ H s) (hN : X.N[i]? = some x) (e : σ[i]? = some (some v)) (hk : X.env.kindOf x = some .local) (hv : Vis X.env.scope x) (h : ∀ u, RelV v u → Q u s)
    (hd : (x == ("__debug__" : Str)) = false := by decide) : wpAny (model X.prog X.w) X.A (eval (.Name x pos) X.env) Q E s := by
  obtain ⟨m, hn, hl⟩ := I.loc
  obtain ⟨u, r, l⟩ := hl i x v hN e hv
  rcases l with ⟨hk, hm⟩ | ⟨hk2, c, hc, hcell⟩
  · exact wpAny_Name (wpAny_loadName_local I.ok.kind hk hn hm (h u r)) hd
  · rw [hk] at hk2
    rcases hk2 with hk2 | hk2 <;> cases hk2
section
variable {P : Program} {w : World} {K : PySem.W.Frag} {mg : Str → Option Value} {base : Heap}
theorem sc_d_lattice_key : FnScope ["classes"] ["classes"] d_lattice_key.scope := ⟨rfl, rfl, rfl, by decide +kernel, rfl, by decide +kernel, by decide +kernel⟩
-- ['classes'] cells []
theorem reads_nvs {h : Heap} : ∀ {l : List Nat} {us : List Value}, Vals (nvs l) us → ReadsAll h us (l.map fun x : Nat => .int (x : Int)) []
  | [], _, .nil => .nil
  | a :: l, _, .cons r rs => by
    obtain ⟨t, rfl⟩ := r
    exact .cons (as := []) (bs := []) (.int _ _) (reads_nvs rs)
theorem lattice_pure (T : Txt K mg) {fd : FuncData} (F : FunD K d_lattice_key.name d_lattice_key.qual d_lattice_key.params d_lattice_key.body d_lattice_key.scope [] [] (He.fAd K d_lattice_key.at_) fd) {A : Around} {outer : List Env} {s : Shared} {H : Hp} {a : Addr} {l : List Nat}
    (hr : Room 2 A) (e0 : Env0 P w K mg base A outer s H) (ha : H a = some (.tup (nvs l))) (hl : l.length ≤ 4000) :
    wpAny (model P w) A (call (.ref (He.fAd K d_lattice_key.at_)) [.ref a]) (KeyPure (kdL l) s) (fun _ _ => False) s := by
  have hbin : Binds K fd [Str.ofString "classes"] [] := F.bindsN (fun _ _ _ _ _ _ us hl => match us, hl with | [_], _ => rfl)
  obtain ⟨oc, od, dV, kV, doc, pm, an, cdv, ct, osl, rfl, lk, hcd, _, _⟩ := F.ex
  have S := sc_d_lattice_key
  have KX : K.In s.heap := e0.mod.kin.keeps fun b o e => (e0.bs b o e).1
  have lim : s.heap.NoLimit := e0.mod.nolimit.keeps fun b o e => (e0.bs b o e).1
  have hb := hbin s [.ref a] KX rfl
  refine wpAny_call ?_
  refine codeAny_call_function hr.depth (KX _ _ lk) rfl S.co S.gen rfl (PySem.W.codeRec_of KX hcd) (hb _ _ _ _ ?_)
  have hkind : ∀ y ∈ [Str.ofString "classes"].zip [Value.ref a], d_lattice_key.scope.names.lookup y.1 = some .local ∨ (d_lattice_key.scope.names.lookup y.1 = some .cell ∧ ((cellsFrom (s.heap.objs.size + 1) d_lattice_key.scope.names []).lookup y.1).isSome = true) := fun ⟨n, v⟩ hy => by
    rcases S.par n (List.of_mem_zip hy).1 with q | q
    · exact .inl q
    · exact .inr ⟨q, PySem.W.cellsFrom_some _ _ _ (.inl q)⟩
  refine wpAny_newFunctionEnv_cells S.kind hkind fun env he s1 x => ?_
  subst he
  refine ⟨lim.keeps x.toInCall.keep, codeAny_func ?_⟩
  have I := inv_start (CX := CX0) (P := P) (w := w) (mg := mg) (base := base) (K := K) (E := E0) (H := H) (vs := [.ref a]) S hr.hd e0 rfl (.cons rfl .nil) x
  obtain ⟨h1, tk, rfl, hk⟩ := x.done
  refine wpAny_execs_cons (wpAny_Return_some (wpAny_Tuple_spliced (PyProof.Rows.args_cons ?_ rfl)))
  refine wpAny_UnaryOp ?_
  have hgl : Gl (cxOf CX0 P w K mg base ["classes"] d_lattice_key.qual d_lattice_key.scope (He.fAd K d_lattice_key.at_) cdv A outer s H E0) "len" := by rfl
  have hgs : Gl (cxOf CX0 P w K mg base ["classes"] d_lattice_key.qual d_lattice_key.scope (He.fAd K d_lattice_key.at_) cdv A outer s H E0) "set" := by rfl
  refine Call_ (ld_blt I hgl T.n_len boot_len ?_)
  refine PyProof.Rows.callWith_builtin1 (PyProof.Rows.args_cons ?_ rfl) rfl rfl
  refine Call_ (ld_blt I hgs T.n_set boot_set ?_)
  refine PyProof.Rows.callWith_type1 (PyProof.Rows.args_cons ?_ rfl) rfl rfl
  refine ld_var (i := 0) I rfl rfl rfl (.inl rfl) fun u ru => ?_
  cases ru
  refine PyProof.Rows.args_nil ?_
  obtain ⟨its, r, pl, hz⟩ := I.tuple (SqT.of ha)
  have hml : nvs l = (l.map fun x : Nat => (x : Int)).map V.int := by unfold nvs; rw [List.map_map]; rfl
  refine call_set_tupI (l.map fun x : Nat => (x : Int)) (I.ok.hd rfl) (show h1.IsTuple a its.toArray from pl) (by rw [hml] at r; simpa using RZ.intsAre_vals r) (by rw [List.length_map]; unfold scanBound; omega) fun h' tk2 c hS hcn hk2 => ?_
  refine PyProof.Rows.args_nil ?_
  obtain ⟨o, es, ep, t, ho, hex, hd, _, hnd, hmem, _, hf, hn, _⟩ := hS
  have I2 := I.kept (t' := tk2) hk2
  have q2 : (es.toList.map keyOf).length = (ddN l).length := dd_int hnd fun k => by
    rw [← hmem k]
    simp
  have el : (es.toList.map keyOf).length = es.size := by simp
  refine call_len_set ho hex hd hf (by rw [hn, List.length_map] at *; omega) ?_
  refine neg_int ?_
  refine PyProof.Rows.args_cons ?_ rfl
  refine ld_var (i := 0) (I2.tok _) rfl rfl rfl (.inl rfl) fun u ru => ?_
  cases ru
  refine PyProof.Rows.args_nil ⟨by show 2 ≤ sizeLine; decide, ?_⟩
  obtain ⟨ot, hot, hoc, n9, hod⟩ := pl
  have hkeep : ∀ b o, s.heap.get? b = some o → (h'.push { cls := .type "tuple", data := .seq #[Value.int (-(es.size : Int)) (tk2 + 1 + 1), .ref a] }).get? b = some o := fun b o e => Heap.get?_push_of_some _ (hk2 b o (hk b o e))
  refine ⟨_, _, rfl, hkeep, ?_⟩
  refine .tuple (as := []) (Heap.get?_push_size _ rfl) rfl rfl (.cons (as := []) (bs := []) ?_ (.cons (as := []) (bs := []) ?_ .nil))
  · rw [← q2, el]
    exact .int _ _
  · refine .tuple (as := []) (Heap.get?_push_of_some _ (hk2 _ _ hot)) hoc hod ?_
    exact reads_nvs r
/-- a value that stands for a row of numbers in a tuple -/
def RTup (H : Hp) (v : Value) (l : List Nat) : Prop := ∃ a, v = .ref a ∧ H a = some (.tup (nvs l))
theorem each_of {H : Hp} : ∀ {vs : List V} {us : List Value} {ls : List (List Nat)}, Vals vs us → Paired (IntTup H) vs ls → EachIs (RTup H) us ls
  | _, _, _, .nil, .nil => .nil
  | _, _, _, .cons r rs, .cons p ps => by
    obtain ⟨a, rfl, ha⟩ := p
    exact .cons ⟨a, r, ha⟩ (each_of rs ps)
theorem of_each {H : Hp} : ∀ {us : List Value} {ls : List (List Nat)}, EachIs (RTup H) us ls → ∃ vs, Vals vs us ∧ Paired (IntTup H) vs ls
  | _, _, .nil => ⟨[], .nil, .nil⟩
  | _, _, .cons r rs => by
    obtain ⟨a, rfl, ha⟩ := r
    obtain ⟨vs, h1, h2⟩ := of_each rs
    exact ⟨.ref a :: vs, .cons rfl h1, .cons ⟨a, rfl, ha⟩ h2⟩
theorem alike_kd (l l' : List Nat) : alike (kdL l) (kdL l') = true := by
  unfold kdL
  have h := alike_ints (l.map fun x : Nat => (x : Int)) (l'.map fun x : Nat => (x : Int))
  rw [List.map_map, List.map_map] at h
  simp only [alike, alikeAll, Bool.and_true, Bool.true_and]
  exact h
theorem depth_ints : ∀ l : List Nat, PyData.depthAll (l.map fun x : Nat => PyData.int (x : Int)) = 0
  | [] => by simp [PyData.depthAll]
  | a :: l => by
    rw [List.map_cons]
    simp only [PyData.depthAll, PyData.depth, depth_ints l]
    rfl
theorem kd_depth (l : List Nat) : (kdL l).depth ≤ 3 := by
  unfold kdL
  simp only [PyData.depth, PyData.depthAll, depth_ints]
  decide
def rSortedL (f : Addr) : List V → List V → Hp → VK → Prop := fun vs zs H Q => ∃ (p : Addr) (vs0 : List V) (found : List (List Nat)), vs = [.ref p] ∧ zs = [.ref f] ∧ H p = some (.lst vs0) ∧ Paired (IntTup H) vs0 found ∧ (∀ l ∈ found, l.length ≤ 4000) ∧ found.length ≤ 4000 ∧
  ∀ (q : Addr) (vs1 : List V) (found' : List (List Nat)), found'.Perm found → H q = none → Paired (IntTup H) vs1 found' → Q (.ref q) (upd H q (.lst vs1))
theorem cr_sortedL (T : Txt K mg) {fd : FuncData} (F : FunD K d_lattice_key.name d_lattice_key.qual d_lattice_key.params d_lattice_key.body d_lattice_key.scope [] [] (He.fAd K d_lattice_key.at_) fd) {X : Cx} (hX : X.K = K) (hm : X.mg = mg) (hr : Room 4 X.A) :
    CallRK X (.builtin "sorted") [Str.ofString "key"] (rSortedL (He.fAd K d_lattice_key.at_)) := by
  intro pins s σ H vs zs us ws Q I r rz h
  obtain ⟨p, vs0, found, rfl, rfl, hp, hpd, hl4, hf4, q⟩ := h
  obtain rfl := Vals.ref1 r
  obtain ⟨w1, rfl, e1⟩ := vals1 rz
  obtain rfl : w1 = .ref (He.fAd K d_lattice_key.at_) := e1
  obtain ⟨its, rv, hl, hz⟩ := I.list (SqL.of hp)
  have hE := each_of rv hpd
  have hdep : ∀ l : List Nat, (kdL l).depth ≤ 3 := kd_depth
  refine sorted_key_data (b := false) kdL hl.isList hE (AllAlike.of alike_kd) (Sortable.tuples fun l => ⟨_, _, rfl⟩) (by have := line_of (n := found.length) (by omega); omega) (fun l _ => by have := hdep l; have := hr.un; omega) (PyProof.Rows.ksk_s1 _ _) (fun _ => PyProof.Rows.ksk_l1 _ _) (fun _ => PyProof.Rows.ksk_t1 _ _) (fun v l hR hlm h tk hk => ?_) fun out c h' tk hk hfr hD hlen hO => ?_
  · obtain ⟨a, rfl, ha⟩ := hR
    have I2 := I.kept (t' := tk) hk
    have e0 : Env0 X.prog X.w K mg X.base X.A.in1.in1 X.stack { s with heap := h, toks := tk } H := by
      rw [← hX, ← hm]
      exact I2.env0.in1.in1
    exact lattice_pure T F hr.in1.in1 e0 ha (hl4 l hlm)
  · obtain ⟨vs1, h1, h2⟩ := of_each hO
    have hperm := List.mergeSort_perm found (dataLe false kdL)
    have hz1 : vs1.length ≤ sizeLine := by
      rw [h1.length, hlen]
      have := line_of (n := found.length) (by omega)
      omega
    exact ⟨.ref (s.heap.objs.size + 1), upd H (s.heap.objs.size + 1) (.lst vs1), I.laid (t' := tk) hk (Nat.le_succ _) ⟨hz1, out, c, h1, hD⟩, rfl, q _ _ _ hperm (I.hok.fresh (Nat.le_succ _)) h2⟩
end
end K95
set_option autoImplicit false
set_option Elab.async false
set_option linter.all false
set_option maxRecDepth 100000
set_option maxHeartbeats 4000000
/-! a dict of one's own is locked and unlocked -/
namespace K95
open PySem PySem.Spec PyProof.Rows L2
section
variable {P : Program} {w : World} {tb : Tbs} {C : Addr} {H H' : Hp} {p : Addr} {T : Tab}
theorem MemFor.monoL {d : Addr} (kt : ∀ a xs, H a = some (.tup xs) → H' a = some (.tup xs)) (kf : ∀ a od xs, H a = some (.frz od (.lst xs)) → H' a = some (.frz od (.lst xs))) (hd : H' d = H d) (h : MemFor P w H d T) : MemFor P w H' d T := by
  obtain ⟨es, xs, h1, h2, h3, h4, h5⟩ := h
  refine ⟨es, xs, by rw [hd]; exact h1, h2, h3, h4, fun x hx => ?_⟩
  have h6 := h5 x hx
  obtain ⟨k0, kv, a⟩ := x
  cases k0 with
  | none =>
    obtain ⟨g1, od, g2⟩ := h6
    exact ⟨g1, od, kf _ _ _ g2⟩
  | some n =>
    obtain ⟨⟨ka, e, g1⟩, g2, od, g3⟩ := h6
    exact ⟨⟨ka, e, kt _ _ g1⟩, g2, od, kf _ _ _ g3⟩
theorem Ext.unlock {od : Obj} {l l' : List (List Key × V)} (e : Ext P w tb C H H') (n : Nw H p) (hp : H' p = some (.frz od (.dT l))) : Ext P w tb C H (upd H' p (.dT l')) := by
  have ne : ∀ (a : Addr) (u : HO), H' a = some u → u ≠ .frz od (.dT l) → a ≠ p := fun a u z y x => by
    subst x
    rw [z] at hp
    exact y (Option.some.inj hp)
  have kp : ∀ a u, H a = some u → plainO u = true → upd H' p (.dT l') a = some u := fun a u h z => by
    rw [upd_ne (n.ne h z)]
    exact e.keep a u h z
  refine ⟨kp, fun c q h => ?_, fun h => ⟨?_, ?_, ?_⟩, fun h m T z => ?_⟩
  · rw [upd_ne (ne c _ (e.code c q h) (fun z => by unfold LamX.CodeO at z; cases z))]
    exact e.code c q h
  · intro t ht
    obtain ⟨ps, h1, h2, h3⟩ := (e.ok h).tab t ht
    refine ⟨ps, by rw [upd_ne (ne _ _ h1 (fun z => by cases z))]; exact h1, h2, fun pos cv hc => ?_⟩
    obtain ⟨c, e1, e2⟩ := h3 pos cv hc
    exact ⟨c, e1, by rw [upd_ne (ne _ _ e2 (fun z => by unfold LamX.CodeO at z; cases z))]; exact e2⟩
  · exact upd_sep (e.ok h).sep hp (fun _ _ _ _ _ z => by cases z)
  · intro m dx r t l0 d hm
    have hm' : H' m = some (.ins C dx (mflds r t l0 d)) := by
      by_cases e : m = p
      · subst e
        rw [upd_same] at hm
        cases hm
      · rw [upd_ne e] at hm
        exact hm
    obtain ⟨es, h⟩ := (e.ok h).dm m dx r t l0 d hm'
    exact ⟨es, by rw [upd_ne (ne d _ h (fun z => by unfold MemO at z; cases z))]; exact h⟩
  · obtain ⟨g, dx', r', t', l1, d', y1, y2⟩ := e.mon h m T z
    obtain ⟨_, dx, r, t, l0, d, x1, x2⟩ := z
    have em := (e.keep m _ x1.ob rfl).symm.trans y1.ob
    unfold mflds at em
    cases em
    refine ⟨g, dx', r', t', l1, d', x1.mono kp, ?_⟩
    obtain ⟨es, xs, h1, _⟩ := id y2
    exact y2.monoL (fun a xs z => by rw [upd_ne (ne a _ z (fun q => by cases q))]; exact z) (fun a od u z => by rw [upd_ne (ne a _ z (fun q => by cases q))]; exact z) (upd_ne (ne d' _ h1 (fun q => by unfold MemO at q; cases q)))
end
end K95
set_option Elab.async false
set_option linter.all false
set_option maxRecDepth 100000
set_option maxHeartbeats 4000000
set_option autoImplicit false
/-! set(xs) of a list of numbers; sorted(set(xs)) -/
namespace K95
open PySem PySem.Spec PyProof.Rows L2
section
variable {P : Program} {w : World} {A : Around} {E : Value → Shared → Prop} {s : Shared}
/-- a new set, its order told by the world -/
abbrev newSet (w : World) : Obj := { cls := .type "set", dict := none, data := .set #[] 0 (.fresh 0 0 (!w.params.followText "set-order")) }
theorem call_setL {l : Addr} {items : Array Value} (ns : List Int) {Q : Value → Shared → Prop} (quiet : A.handled = none) (isl : s.heap.IsList l items) (hint : IntsAre items.toList ns) (few : ns.length + 1 < scanBound)
    (h : ∀ (h' : Heap) (tk c : Nat), SetR w h' s.heap.objs.size (fun j => decide (j ∈ ns)) c → c ≤ ns.length → (∀ b o, s.heap.get? b = some o → h'.get? b = some o) → Q (.ref s.heap.objs.size) { s with heap := h', toks := tk }) :
    wpAny (model P w) A (call (.type "set") [.ref l]) Q E s := by
  have size_is : items.size = ns.length := by
    have q := IntsAre.length hint
    rwa [Array.length_toList] at q
  obtain ⟨c, tl, hmro⟩ := F.called_set.mro
  have hmade := F.called_set.made
  have hsub := F.called_set.sub
  refine wpAny_call (codeAny_of_tree ?_)
  show wpAny _ _ (callAny (.type "set") _) _ _ _
  refine wpAny_pure ⟨Code.quiet_builtin _ (by decide +kernel), codeAny_builtin F.entry_type_call ?_⟩
  rw [Around.under_plain (weight_type_call_type "set" [.ref l] []) rfl]
  have h1 := F.called_set.notType
  have h2 := F.called_set.canCreate
  have hct := F.typeCall_set_1 (.ref l)
  repeat (any_goals (first | assumption | wp_step))
  refine codeAny_mono (L2.code_set_led1 (.ref l) (E := E) (Q₁ := fun obj t => obj = .ref s.heap.objs.size ∧ t = { s with heap := s.heap.push (newSet w) }) ⟨rfl, rfl⟩) fun r t hr => ?_
  cases r with
  | error e => exact hr
  | ok fl =>
    cases fl with
    | ret obj =>
      obtain ⟨rfl, rfl⟩ := hr
      have at_new : (s.heap.push (newSet w)).get? s.heap.objs.size = some (newSet w) := Heap.get?_push_size _ rfl
      have hT : Shared.TypeIs { s with heap := s.heap.push (newSet w) } (.ref s.heap.objs.size) "set" := ⟨_, at_new, rfl⟩
      have hli := F.called_set.init.lookup
      have hbi := F.called_set.init.bind (.ref s.heap.objs.size)
      repeat (any_goals (first | assumption | wp_step))
      refine codeAny_mono (codeAny_call_builtin (R := wants (fun r t2 => r = .none ∧ ∃ h' tk c, t2 = { s with heap := h', toks := tk } ∧ SetR w h' s.heap.objs.size (fun j => decide (j ∈ ns)) c ∧ c ≤ ns.length ∧
          (∀ b o, s.heap.get? b = some o → h'.get? b = some o)) E) F.called_set.init.plain F.entry_set_init (check_set_init_1 hT ?_)) fun r2 t2 hr2 => ?_
      · obtain ⟨ol, hol, hcl, nl, hdl⟩ := isl
        obtain ⟨ocls, odict, odata, oslots⟩ := ol
        simp only at hcl hdl
        subst hcl; subst hdl
        have hol' : (s.heap.push (newSet w)).get? l = some { cls := .type "list", dict := odict, data := .seq items nl, slots := oslots } := Heap.get?_push_of_some _ hol
        have hsls := F.sub_list_set
        have hslf := F.sub_list_frozenset
        have hne : (Value.type "list" == Value.type "dict") = false := by decide
        have hl1 : (s.heap.push (newSet w)).IsList l items := ⟨_, hol', rfl, nl, rfl⟩
        unfold Builtin.«set.__init__» noKeywords Builtin.Frozenset.updateFrom
        generalize hPI : pyIter = PI
        wp_walk
        subst hPI
        refine wpAny_pyIter_list hl1 ?_
        refine wpAny_bind (wpAny_runValue ?_)
        have old : l < s.heap.objs.size := Heap.lt_size hol
        have hh3 : A.in1.in1.in1.handled = none := by simp [quiet]
        have sz1 : (s.heap.push (newSet w)).objs.size = s.heap.objs.size + 1 := Heap.size_push ..
        have ne1 : l ≠ (s.heap.push (newSet w)).objs.size := fun z => absurd (z.trans sz1) (Nat.ne_of_lt (Nat.lt_succ_of_lt old))
        have out : s.heap.objs.size ∉ [(s.heap.push (newSet w)).objs.size, l] := fun z => by
          rcases List.mem_cons.mp z with z | z
          · exact absurd (z.trans sz1) (Nat.ne_of_lt (Nat.lt_succ_self _))
          · exact absurd (List.mem_singleton.mp z) (Nat.ne_of_gt old)
        have hval : ∀ (i : Nat) (v : Value), items[i]? = some v → ∃ k t, ns[i]? = some k ∧ v = .int k t := fun i v hv => by
          have hi : i < ns.length := by rw [← size_is]; exact (Array.getElem?_eq_some_iff.mp hv).1
          obtain ⟨t, e⟩ := PyProof.Rows.IntsAre.int_at hint i v (by rw [Array.getElem?_toList]; exact hv)
          refine ⟨ns[i], t, List.getElem?_eq_getElem hi, ?_⟩
          rw [e, List.getD_eq_getElem?_getD, List.getElem?_eq_getElem hi] <;> rfl
        refine L2.set_update_ints ((Walks.list hh3 _ l ne1 items).toS) s.heap.objs.size out ns size_is few hval (items.size - 0) 0 _ (by omega) (Nat.zero_le _)
          ⟨⟨_, Heap.get?_push_size _ rfl, rfl, rfl⟩, (hl1.push _)⟩ ?start ?stop
        case start => exact ⟨0, Nat.le_refl 0, L2.setR_new_at (Heap.get?_push_of_some _ at_new)⟩
        case stop =>
          intro s' c' hm hc' hS'
          obtain ⟨h', g2, d', tk', os'⟩ := s'
          have eg : g2 = s.gens := hm.gens
          have ed : d' = s.drawn := hm.drawn
          have eo : os' = s.os := hm.os
          subst eg; subst ed; subst eo
          show wpAny _ _ _ _ _ _
          refine wpAny_pure ?_
          show wpAny _ _ (ret Value.none) _ _ _
          rw [size_is] at hc'
          refine wpAny_pure ⟨rfl, h', tk', c', rfl, hS', hc', fun b o e => ?_⟩
          have hb0 : b < s.heap.objs.size := Heap.lt_size e
          refine hm.heap b o (fun z => ?_) (Heap.get?_push_of_some _ (Heap.get?_push_of_some _ e))
          rcases List.mem_cons.mp z with z | z
          · exact absurd z (Nat.ne_of_lt hb0)
          · exact absurd ((List.mem_singleton.mp z).trans sz1) (Nat.ne_of_lt (Nat.lt_succ_of_lt hb0))
      · cases r2 with
        | error e => exact hr2
        | ok fl2 =>
          cases fl2 with
          | ret r =>
            obtain ⟨rfl, h', tk, c', rfl, hS', hc', hk'⟩ := hr2
            repeat (any_goals (first | assumption | wp_step))
            exact h _ _ _ hS' hc' hk'
          | _ => exact hr2.elim
    | _ => exact hr.elim
end
/-- set(xs), xs a list of numbers -/
def rSetL (K : PySem.W.Frag) (w : World) : List V → Hp → VK → Prop := fun xs H Q => ∃ (l : Addr) (ns : List Int), xs = [.ref l] ∧ SqL K H l (ns.map V.int) ∧ ns.length ≤ 4000 ∧
  ∀ (a : Addr) (c : Nat), H a = none → c ≤ ns.length → Q (.ref a) (upd H a (SetO w a (fun j => decide (j ∈ ns)) c))
theorem cr_setL {X : Cx} (hc : X.calm = true) : CallR X (.type "set") (rSetL X.K X.w) := by
  intro pins s σ H xs us Q I r h
  obtain ⟨l, ns, rfl, hq, hl, q⟩ := h
  rw [Vals.ref1 r]
  obtain ⟨its, rv, pl, hz⟩ := I.list hq
  refine call_setL ns (I.ok.hd hc) pl.isList (by simpa using RZ.intsAre_vals rv) (by unfold scanBound; omega) fun h' tk c R hcn hk => ?_
  have hn : H s.heap.objs.size = none := I.hok.fresh (Nat.le_refl _)
  exact ⟨.ref _, upd H s.heap.objs.size (SetO X.w s.heap.objs.size (fun j => decide (j ∈ ns)) c), I.laid (t' := tk) hk (Nat.le_refl _) (setO_new R), rfl, q _ c hn hcn⟩
end K95
set_option Elab.async false
set_option linter.all false
set_option maxRecDepth 100000
set_option maxHeartbeats 4000000
set_option autoImplicit false
namespace K95
open PySem PySem.Spec PyProof.Rows L2
def fT (ρ : List Nat) : List Key × V := (tk ρ, .bl true)
theorem valT {pr : List (List Nat)} {ρ : List Nat} : valV (pr.map fT) (tk ρ) = if ρ ∈ pr then some (.bl true) else none := by
  induction pr with
  | nil => rfl
  | cons a pr ih =>
    rw [List.map_cons]
    by_cases e : a = ρ
    · subst e
      rw [if_pos (List.mem_cons_self ..)]
      exact valV_pos (p := fT a) rfl
    · rw [valV_neg (fun z => e (tk_inj _ _ z)), ih]
      by_cases h : ρ ∈ pr
      · rw [if_pos h, if_pos (List.mem_cons_of_mem _ h)]
      · rw [if_neg h, if_neg (fun z => (List.mem_cons.mp z).elim (fun q => e q.symm) h)]
theorem putT {pr : List (List Nat)} {ρ : List Nat} : putK (pr.map fT) (tk ρ) (.bl true) = (if ρ ∈ pr then pr else pr ++ [ρ]).map fT := by
  by_cases h : ρ ∈ pr
  · rw [if_pos h]
    unfold putK
    rw [valV_any, valT, if_pos h]
    simp only [Option.isSome_some, if_true]
    rw [List.map_map]
    refine List.map_congr_left fun a _ => ?_
    show (if (fT a).1 = tk ρ then ((fT a).1, V.bl true) else fT a) = fT a
    split <;> rfl
  · rw [if_neg h, K95.putK_new (by rw [valT, if_neg h]), List.map_append]
    rfl
section
variable {P : Program} {w : World} {K : PySem.W.Frag} {mg : Str → Option Value} {base : Heap} {tb : Tbs}
def spCongs (P : Program) (w : World) (tb : Tbs) (K : PySem.W.Frag) : Sp := fun vs H Q _ => ∃ (m : Addr) (T : Tab) (n k : Nat), vs = [.ref m] ∧ Okk tb (CM K) H ∧ MonAt P w (CM K) H m T ∧ Good T n k ∧ n ≤ 30 ∧ (∀ l : List (List Nat), l.Nodup → (∀ ρ ∈ l, CongT (stepsOf T) n (2 * k) ρ) → l.length ≤ 100) ∧
  ∀ H' p vs' found, Ext P w tb (CM K) H H' → H' p = some (.lst vs') → Paired (IntTup H') vs' found → (∀ ρ, ρ ∈ found ↔ CongT (stepsOf T) n (2 * k) ρ) → Q (.ref p) H'
theorem sc_d_congruences : FnScope ["monoid", "many", "steps", "principal", "one", "other", "found", "known", "at", "both"] ["monoid"] d_congruences.scope := ⟨rfl, rfl, rfl, by decide +kernel, rfl, by decide +kernel, by decide +kernel⟩
theorem go_congruences (T : Txt K mg) : Go P w K mg base "congruences" ["monoid"] 5 (spCongs P w tb K) := by
  obtain ⟨fd, F⟩ := T.fn 29
  obtain ⟨t_MOST_CONGRUENCES, h_MOST_CONGRUENCES⟩ := T.i_MOST_CONGRUENCES
  obtain ⟨f_joined_classes, fd_joined_classes, m_joined_classes, k_joined_classes, b_joined_classes, G_joined_classes⟩ := go_joined_classes (P := P) (w := w) (base := base) (tb := tb) T
  obtain ⟨f_closed, fd_closed, m_closed, k_closed, b_closed, G_closed⟩ := go_closed (P := P) (w := w) (base := base) (tb := tb) T
  obtain ⟨f_steps_by_letters, fd_steps_by_letters, m_steps_by_letters, k_steps_by_letters, b_steps_by_letters, G_steps_by_letters⟩ := go_steps_by_letters (P := P) (w := w) (base := base) (tb := tb) T
  obtain ⟨t_MOST_LATTICE, h_MOST_LATTICE⟩ := T.i_MOST_LATTICE
  obtain ⟨f_checked, fd_checked, m_checked, k_checked, b_checked, G_checked⟩ := go_checked (P := P) (w := w) (base := base)  T
  refine ⟨_, fd, T.g_congruences, F.kp, F.bindsN (fun _ _ _ _ _ _ us hl => match us, hl with | [_], _ => rfl), okN F sc_d_congruences (fun vs H Q E h => by
    obtain ⟨_, _, _, _, rfl, _⟩ := h
    rfl) (fun cdv A outer s H vs Q E rm h => ?_)⟩
  obtain ⟨m, T', n, k, rfl, ok, hM, hG, hn30, hN, q⟩ := h
  obtain ⟨fd9, F9⟩ := T.fn 28
  refine ⟨_, (pss_cons (ps_expr (pe_call G_checked (rm.mono (by decide)) rfl m_checked k_checked b_checked .nil pass0 (pa_cons (pv 0) pa_nil)))
      (pss_cons (ps_set (i := 1) sc_d_congruences.nd rfl (Or.inl rfl) (pe_callB call_len_seq (by rfl) T.n_len boot_len (pa_cons (pe_fld (pv 0) rfl) pa_nil)))
      (pss_cons (ps_if (pt_cmpR (op_gt) (pv 1) (pe_glob (v := .int 30) rfl h_MOST_LATTICE ⟨_, rfl⟩) (nomark _)) (pss_one (ps_never)) pss_nil)
      (pss_cons (ps_par (i := 2) (j := 3) (by rfl) sc_d_congruences.nd rfl rfl (by decide) rfl rfl (pa_cons (pe_call G_steps_by_letters (rm.mono (by decide)) rfl m_steps_by_letters k_steps_by_letters b_steps_by_letters .nil pass0 (pa_cons (pv 0) pa_nil)) (pa_cons pe_dnewT pa_nil)) (by rfl))
      (pss_cons (ps_for PassesOwn.never rfl (pi_range1 rfl T.n_range (pa_cons (pv 1) pa_nil)) (pg_name (i := 4) sc_d_congruences.nd rfl (Or.inl rfl))
      (pss_one (ps_for PassesOwn.never rfl (pi_range2 (by rfl) T.n_range (pa_cons (pe_op op_add (pv 4) pe_int) (pa_cons (pv 1) pa_nil))) (pg_name (i := 5) sc_d_congruences.nd rfl (Or.inl rfl))
      (pss_one (ps_dput (hu_of rm) (pv 3) (pe_call G_closed (rm.mono (by decide)) rfl m_closed k_closed b_closed .nil pass0 (pa_cons (pv 2) (pa_cons (pe_lst (pa_cons (pe_tup (pa_cons (pv 4) (pa_cons (pv 5) pa_nil))) pa_nil)) pa_nil))) pe_bl rfl)))))
      (pss_cons (ps_set (i := 6) sc_d_congruences.nd rfl (Or.inl rfl) (pe_lst (pa_cons (pe_tupRg rfl rfl T.n_tuple (prg_1 rfl T.n_range (pv 1))) pa_nil)))
      (pss_cons (ps_set (i := 7) sc_d_congruences.nd rfl (Or.inl rfl) (pe_disp1 (hu_of rm) (pe_ix ix_list (pv 6) pe_int (fun _ _ => rfl)) pe_bl))
      (pss_cons (ps_set (i := 8) sc_d_congruences.nd rfl (Or.inl rfl) pe_int)
      (pss_cons (ps_while PassesOwn.never (pt_cmpR (op_lt) (pv 8) (pe_callB call_len_seq (by rfl) T.n_len boot_len (pa_cons (pv 6) pa_nil)) (nomark _)) (pss_cons (ps_lock (ps_for PassesOwn.never rfl (pi_keys (pv 3)) (pg_name (i := 5) sc_d_congruences.nd rfl (Or.inl rfl))
      (pss_cons (ps_set (i := 9) sc_d_congruences.nd rfl (Or.inl rfl) (pe_call G_joined_classes (rm.mono (by decide)) rfl m_joined_classes k_joined_classes b_joined_classes .nil pass0 (pa_cons (pe_ix ix_list (pv 6) (pv 8) (fun _ _ => rfl)) (pa_cons (pv 5) pa_nil))))
      (pss_one (ps_if (pt_cmp (pc_dnotin (hu_of rm) (pv 9) (pv 7))) (pss_cons (ps_dput (hu_of rm) (pv 7) (pv 9) pe_bl rfl)
      (pss_one (ps_expr (pe_bm PySem.F.plainAttrs_list PySem.F.slot_list_append PySem.F.type_list_append mt_append (pv 6) (pa_cons (pv 9) pa_nil))))) pss_nil)))))
      (pss_cons (ps_if (pt_cmpR (op_gt) (pe_callB call_len_seq (by rfl) T.n_len boot_len (pa_cons (pv 6) pa_nil)) (pe_glob (v := .int 100) rfl h_MOST_CONGRUENCES ⟨_, rfl⟩) (nomark _)) (pss_one (ps_never)) pss_nil)
      (pss_one (ps_aug (i := 8) sc_d_congruences.nd rfl (.inl rfl) pe_int ip_add)))))
      (pss_one (ps_ret (pe_callBK (cr_sortedL T F9 rfl rfl (rm.mono (by decide))) (by rfl) T.n_sorted boot_sorted (pa_cons (pv 6) pa_nil) (pk_cons (pe_glob (v := .ref (He.ga K "lattice_key")) rfl T.g_lattice_key rfl) pk_nil))))))))))))), ?_⟩
  have hM' := hM
  obtain ⟨_, dx, r, tt, l, d, hB, _⟩ := hM'
  obtain ⟨rs, a11, a12⟩ := hB.right
  have hlen := hG.form.len
  have hrn : rs.length = n := by rw [paired_len a12, hlen]
  have z1 := hG.form.n1
  have zk := hG.form.k2
  have hF := stepsOf_form hG
  refine ⟨_, rfl, m, dx, _, rfl, hB.ob, ?_⟩
  refine ⟨_, rfl, _, _, dx, _, _, rfl, hB.ob, T.cl, T.no_right, rfl, _, _, rfl, .inr (SqT.of a11), ?_⟩
  rw [hrn]
  refine ⟨_, rfl, _, _, rfl, rfl, _, rfl, iteF (decide_eq_false (by show ¬ (30 : Int) < (n : Int); omega)) ?_⟩
  refine ⟨_, rfl, m, T', n, k, rfl, hM, hG, fun H1 sa e1 hS => ?_⟩
  refine fun pa hpa => ?_
  have e2 := Ext.new (P := P) (w := w) (tb := tb) (C := CM K) (o := .dT []) hpa
  have npa : Nw H1 pa := .of hpa
  refine ⟨_, _, rfl, ?_⟩
  refine ⟨_, rfl, (n : Int), rfl, by omega, by omega, for_it walk_range (fun i σ H' => ∃ y4 y5 pr, σ = [some (.ref m), some (nv n), some (.ref sa), some (.ref pa), y4, y5, none, none, none, none] ∧ Ext P w tb (CM K) H1 H' ∧ H' pa = some (.dT (pr.map fT)) ∧ pr.Nodup ∧ (∀ ρ ∈ pr, CongT (stepsOf T') n (2 * k) ρ) ∧ (∀ x y, x < i → x < y → y < n → ∃ ρ ∈ pr, PrinOf (stepsOf T') n (2 * k) ρ x y))
    ⟨none, none, [], rfl, e2, upd_same, .nil, (fun ρ h => by cases h), fun x y hx => by omega⟩ (fun _ _ _ _ _ => trivial) (fun i x σ H' H6 hi ⟨y4, y5, pr, es, e, hp, hnd, hpc, hpp⟩ hy => ?_) fun σ H' ⟨y4, y5, pr, es, e, hp, hnd, hpc, hpp⟩ => ?_⟩
  · obtain ⟨rfl, rfl⟩ := hy
    subst es
    have hi' : i < n := hi
    have ex : (V.int (0 + (i : Int))) = nv i := by show _ = V.int (i : Int); rw [Int.zero_add]
    refine ⟨_, rfl, _, _, rfl, rfl, _, rfl, (0 + (i : Int) + 1), (n : Int), rfl, ⟨by omega, by omega, by omega, by omega⟩, for_it walk_range (fun j σ H' => ∃ y5 pr', σ = [some (.ref m), some (nv n), some (.ref sa), some (.ref pa), some (nv i), y5, none, none, none, none] ∧ Ext P w tb (CM K) H1 H' ∧ H' pa = some (.dT (pr'.map fT)) ∧ pr'.Nodup ∧ (∀ ρ ∈ pr', CongT (stepsOf T') n (2 * k) ρ) ∧ (∀ ρ ∈ pr, ρ ∈ pr') ∧ (∀ y, i < y → y < i + 1 + j → y < n → ∃ ρ ∈ pr', PrinOf (stepsOf T') n (2 * k) ρ i y))
      ⟨y5, pr, by rw [← ex]; rfl, e, hp, hnd, hpc, fun ρ h => h, fun y h1 h2 => by omega⟩ (fun _ _ _ _ _ => trivial) (fun j x σ H' H6 hj ⟨y5, pr', es, e', hp', hnd', hpc', hsub, hpp'⟩ hy => ?_) fun σ H' ⟨y5, pr', es, e', hp', hnd', hpc', hsub, hpp'⟩ => ?_⟩
    · obtain ⟨rfl, rfl⟩ := hy
      subst es
      have hj' : i + 1 + j < n := by omega
      have ey : (V.int (0 + (i : Int) + 1 + (j : Int))) = nv (i + 1 + j) := by
        show _ = V.int ((i + 1 + j : Nat) : Int)
        congr 1
        omega
      change gName 5 (V.int (0 + (i : Int) + 1 + (j : Int))) _ _ _
      rw [ey]
      have hstn := hF
      have zs : n ≤ 2000 := by omega
      refine ⟨_, rfl, _, rfl, _, rfl, _, rfl, (by show 2 ≤ sizeLine; decide), fun ta hta => ⟨(by show 1 ≤ sizeLine; decide), fun la hla => ?_⟩⟩
      have e3 := e'.trans (Ext.new (P := P) (w := w) (tb := tb) (C := CM K) (o := .tup [nv i, nv (i + 1 + j)]) hta)
      have e4' := Ext.new (P := P) (w := w) (tb := tb) (C := CM K) (o := .lst [.ref ta]) hla
      have e3' := Ext.new (P := P) (w := w) (tb := tb) (C := CM K) (o := .tup [nv i, nv (i + 1 + j)]) hta
      have e4 := e3.trans e4'
      refine ⟨sa, la, stepsOf T', n, 2 * k, [.ref ta], [(i, i + 1 + j)], rfl, hS.ext (e'.trans (e3'.trans e4')), hF, by omega, by omega, upd_same, .cons ⟨ta, rfl, e4'.tup upd_same⟩ .nil, by simp, fun p hp => by rw [List.mem_singleton.mp hp]; exact ⟨hi', hj'⟩, fun H5 c r5 e5 I5 h5 => ?_⟩
      have PR := I5.prin hF hi' hj'
      have eR := e4.trans e5
      have hp5 : H5 pa = some (.dT (pr'.map fT)) := ((e3'.trans e4').trans e5).keep _ _ hp' rfl
      have hlen' : pr'.length ≤ 100 := hN pr' hnd' hpc'
      have hc5 : IntTup H5 (.ref c) ((List.range n).map (rt r5)) := ⟨c, rfl, h5⟩
      have dput := DPut.t (k := tk ((List.range n).map (rt r5))) (v := .bl true) hp5 (b := c) (by rw [tk_nvs]; exact h5) (by rw [List.length_map]; have := line_of (n := pr'.length) (by omega); omega)
      rw [putT] at dput
      have hmem : ∀ ρ, ρ ∈ (if (List.range n).map (rt r5) ∈ pr' then pr' else pr' ++ [(List.range n).map (rt r5)]) ↔ ρ ∈ pr' ∨ ρ = (List.range n).map (rt r5) := fun ρ => by
        split
        · rename_i h
          exact ⟨.inl, fun q => q.elim id fun z => by rw [z]; exact h⟩
        · rw [List.mem_append, List.mem_singleton]
      refine ⟨pa, _, rfl, dput, _, _, rfl, eR.mut npa hp5 rfl, upd_same, ?_, ?_, ?_, ?_⟩
      · split
        · exact hnd'
        · rename_i h
          exact nodup_snoc hnd' h
      · intro ρ hρ
        rcases (hmem ρ).mp hρ with h | h
        · exact hpc' ρ h
        · rw [h]; exact PR.c
      · exact fun ρ hρ => (hmem ρ).mpr (.inl (hsub ρ hρ))
      · intro y h1 h2 h3
        by_cases hyj : y < i + 1 + j
        · obtain ⟨ρ, g1, g2⟩ := hpp' y h1 hyj h3
          exact ⟨ρ, (hmem ρ).mpr (.inl g1), g2⟩
        · have : y = i + 1 + j := by omega
          subst this
          exact ⟨_, (hmem _).mpr (.inr rfl), PR⟩
    · subst es
      refine ⟨_, _, pr', rfl, e', hp', hnd', hpc', fun x y hx hxy hy => ?_⟩
      by_cases hxi : x < i
      · obtain ⟨ρ, h1, h2⟩ := hpp x y hxi hxy hy
        exact ⟨ρ, hsub ρ h1, h2⟩
      · have : x = i := by omega
        subst this
        exact hpp' y hxy (by omega) hy
  · subst es
    refine ⟨_, rfl, (n : Int), rfl, ⟨by omega, by omega, by omega, by omega, by omega⟩, fun ia hia => ⟨(by show 1 ≤ sizeLine; decide), fun fa hfa => ?_⟩⟩
    rw [rg_nvs] at hfa ⊢
    have f1 := Ext.new (P := P) (w := w) (tb := tb) (C := CM K) (o := .tup (nvs (List.range n))) hia
    have f2 := Ext.new (P := P) (w := w) (tb := tb) (C := CM K) (o := .lst [.ref ia]) hfa
    refine fun ka hka => ?_
    have f3 := Ext.new (P := P) (w := w) (tb := tb) (C := CM K) (o := .dK []) hka
    have hfa3 := f3.lst (upd_same (H := upd H' ia (.tup (nvs (List.range n)))) (a := fa) (o := .lst [.ref ia]))
    have hia3 : (upd (upd (upd H' ia (.tup (nvs (List.range n)))) fa (.lst [.ref ia])) ka (.dK [])) ia = some (.tup (nvs (List.range n))) := (f2.trans f3).tup upd_same
    refine ⟨_, rfl, _, _, _, _, rfl, rfl, SqL.of hfa3, atI_nat (j := 0) rfl, upd_same, _, .inr ⟨tk (List.range n), ia, rfl, by rw [tk_nvs]; exact hia3, rfl⟩, ?_⟩
    have f123 := (f1.trans f2).trans f3
    have nka : Nw H1 ka := ((e.trans f1).trans f2).nw hka
    have nfa : Nw H1 fa := (e.trans f1).nw hfa
    have nkp0 : pa ≠ ka := ne_of_none ((f1.trans f2).keep _ _ hp rfl) hka
    have eI := (e.trans f123).mut (o := .dT [fT (List.range n)]) nka upd_same rfl
    rw [upd_upd] at eI ⊢
    have f4 := Ext.new (P := P) (w := w) (tb := tb) (C := CM K) (o := .dT [fT (List.range n)]) hka
    have hpa4 := ((f1.trans f2).trans f4).keep _ _ hp rfl
    obtain ⟨cid, cidf⟩ := cong_id hF hF.ent
    refine ⟨fun mm σ H' => ∃ at' found vs y9 y5, σ = [some (.ref m), some (nv n), some (.ref sa), some (.ref pa), y4, y5, some (.ref fa), some (.ref ka), some (nv at'), y9] ∧ Ext P w tb (CM K) H1 H' ∧ H' fa = some (.lst vs) ∧ Paired (IntTup H') vs found ∧ H' ka = some (.dT (found.map fT)) ∧ H' pa = some (.dT (pr.map fT)) ∧ found.Nodup ∧ (∀ ρ ∈ found, CongT (stepsOf T') n (2 * k) ρ) ∧ List.range n ∈ found ∧ at' ≤ found.length ∧ (∀ i ρ, i < at' → found[i]? = some ρ → ∀ π ∈ pr, ∃ τ ∈ found, JoinOf (stepsOf T') n (2 * k) ρ π τ) ∧ mm = 200 - at',
      ⟨200, 0, [List.range n], [.ref ia], none, y5, rfl, (e.trans (f1.trans f2)).trans f4, f4.lst upd_same, .cons ⟨ia, rfl, (f2.trans f4).tup upd_same⟩ .nil, upd_same, hpa4, by simp, fun ρ hρ => by rw [List.mem_singleton.mp hρ]; exact cid, by simp, Nat.zero_le _, fun i ρ hi => by omega, rfl⟩, fun mm σ H' hW => ?_⟩
    obtain ⟨at', found, vs, y9, y5, rfl, e, hf, hfp, hk, hp, hnd2, hfc, hid, hat, hj, hmm⟩ := hW
    have hfv : vs.length = found.length := paired_len hfp
    have h100 := hN found hnd2 hfc
    refine ⟨_, rfl, _, rfl, fa, _, rfl, .inl (SqL.of hf), _, _, rfl, rfl, _, rfl, ite2 (fun hlt => ?_) fun hge => ?_⟩
    · have hlt' : at' < found.length := by
        have := of_decide_eq_true hlt
        rw [hfv] at this
        omega
      refine ⟨fun σ' H'' => ∃ m', m' < mm ∧ (∃ at' found vs y9 y5, σ' = [some (.ref m), some (nv n), some (.ref sa), some (.ref pa), y4, y5, some (.ref fa), some (.ref ka), some (nv at'), y9] ∧ Ext P w tb (CM K) H1 H'' ∧ H'' fa = some (.lst vs) ∧ Paired (IntTup H'') vs found ∧ H'' ka = some (.dT (found.map fT)) ∧ H'' pa = some (.dT (pr.map fT)) ∧ found.Nodup ∧ (∀ ρ ∈ found, CongT (stepsOf T') n (2 * k) ρ) ∧ List.range n ∈ found ∧ at' ≤ found.length ∧ (∀ i ρ, i < at' → found[i]? = some ρ → ∀ π ∈ pr, ∃ τ ∈ found, JoinOf (stepsOf T') n (2 * k) ρ π τ) ∧ m' = 200 - at'), fun σ' H'' h => h, ?_⟩
      obtain ⟨ρ0, hρ0⟩ : ∃ ρ, found[at']? = some ρ := ⟨_, List.getElem?_eq_getElem hlt'⟩
      refine ⟨pa, _, hp, trivial, fun od => ?_⟩
      have eL := e.mut (o := .frz od (.dT (pr.map fT))) npa hp rfl
      have nfp : fa ≠ pa := ne_of hf hp fun z => by cases z
      have nkp : ka ≠ pa := nkp0.symm
      refine ⟨_, rfl, pa, od, rfl, .inr ⟨_, upd_same, for_it (walk_keysT (kvs := pr.map fT)) (fun i2 σ H' => ∃ found' vs' y5 y9, σ = [some (.ref m), some (nv n), some (.ref sa), some (.ref pa), y4, y5, some (.ref fa), some (.ref ka), some (nv at'), y9] ∧ Ext P w tb (CM K) H1 H' ∧ H' fa = some (.lst vs') ∧ Paired (IntTup H') vs' found' ∧ H' ka = some (.dT (found'.map fT)) ∧ H' pa = some (.frz od (.dT (pr.map fT))) ∧ found'.Nodup ∧ (∀ ρ ∈ found', CongT (stepsOf T') n (2 * k) ρ) ∧ (∀ (i : Nat) (ρ : List Nat), found[i]? = some ρ → found'[i]? = some ρ) ∧ (∀ (j : Nat) (π : List Nat), j < i2 → pr[j]? = some π → ∃ τ ∈ found', JoinOf (stepsOf T') n (2 * k) ρ0 π τ))
        ⟨found, vs, y5, y9, rfl, eL, by rw [upd_ne nfp]; exact hf, Paired.mapP hfp fun _ _ z => z.mono fun a xs h => by rw [upd_ne (ne_of h hp fun z => by cases z)]; exact h, by rw [upd_ne nkp]; exact hk, upd_same, hnd2, hfc, fun _ _ h => h, fun j π hj => by omega⟩ (fun _ _ _ _ ⟨_, _, _, _, _, _, _, _, _, h, _⟩ => h) (fun i2 x σ H' H6 hi2 ⟨found', vs', y5, y9, es, e', hf', hfp', hk', hp', hnd', hfc', hpre, hjj⟩ hy => ?_) fun σ H' ⟨found', vs', y5, y9, es, e', hf', hfp', hk', hp', hnd', hfc', hpre, hjj⟩ => ?_⟩⟩
      · obtain ⟨rfl, kk, vv, qa, hkv, rfl, hqa⟩ := hy
        subst es
        obtain ⟨π, hπ, hpe⟩ : ∃ π, pr[i2]? = some π ∧ kk = tk π := by
          rw [List.getElem?_map] at hkv
          obtain ⟨π, h1, h2⟩ := Option.map_eq_some_iff.mp hkv
          exact ⟨π, h1, (congrArg Prod.fst h2).symm⟩
        subst hpe
        rw [tk_nvs] at hqa
        have hπm := List.mem_of_getElem? hπ
        have hπc := hpc π hπm
        have g0 : found'[at']? = some ρ0 := hpre at' ρ0 hρ0
        have hρ0m := List.mem_of_getElem? g0
        have hρc := hfc' ρ0 hρ0m
        obtain ⟨v0, hv0, a0, rfl, ha0⟩ := paired_get hfp' g0
        have h100' := hN found' hnd' hfc'
        refine ⟨_, rfl, _, rfl, _, _, _, _, rfl, rfl, SqL.of hf', atI_nat hv0, _, rfl, ?_⟩
        refine ⟨.ref a0, .ref qa, ρ0, π, n, rfl, ⟨a0, rfl, ha0⟩, ⟨qa, rfl, hqa⟩, hρc.len, hπc.len, by omega, fun x hx => cong_mem hρc x hx, fun x hx => cong_mem hπc x hx, fun H7 c r7 e7 J7 h7 => ?_⟩
        have JO := J7.joinOf hF hF.ent hρc hπc
        have e8 := e'.trans e7
        have hf7 := e7.lst hf'
        have hk7 := e7.keep _ _ hk' rfl
        have hp7 := e7.keep _ _ hp' rfl
        have hfp7 : Paired (IntTup H7) vs' found' := Paired.mapP hfp' fun _ _ z => z.ext e7
        have dget := DGet.t (k := tk ((List.range n).map (rt r7))) hk7 (b := c) (by rw [tk_nvs]; exact h7)
        rw [valT] at dget
        refine ⟨_, rfl, _, rfl, ka, _, rfl, dget, _, rfl, ?_⟩
        by_cases hin : (List.range n).map (rt r7) ∈ found'
        · refine iteF (by rw [if_pos hin]; rfl) ?_
          refine ⟨found', vs', _, _, rfl, e8, hf7, hfp7, hk7, hp7, hnd', hfc', hpre, fun j π' hj hπ' => ?_⟩
          by_cases hji : j < i2
          · exact hjj j π' hji hπ'
          · have : j = i2 := by omega
            subst this
            rw [hπ] at hπ'
            cases hπ'
            exact ⟨_, hin, JO⟩
        · refine iteT (by rw [if_neg hin]; rfl) ?_
          have dput := DPut.t (k := tk ((List.range n).map (rt r7))) (v := .bl true) hk7 (b := c) (by rw [tk_nvs]; exact h7) (by rw [List.length_map]; have := line_of (n := found'.length) (by omega); omega)
          rw [putT, if_neg hin] at dput
          have e9 := e8.mut (o := .dT ((found' ++ [(List.range n).map (rt r7)]).map fT)) nka hk7 rfl
          have nfk : fa ≠ ka := ne_of hf7 hk7 fun z => by cases z
          refine ⟨_, rfl, _, rfl, ka, _, rfl, dput, ?_⟩
          have kt := tup_upd (o := .dT ((found' ++ [(List.range n).map (rt r7)]).map fT)) hk7 rfl
          have hf9 : (upd H7 ka (.dT ((found' ++ [(List.range n).map (rt r7)]).map fT))) fa = some (.lst vs') := by rw [upd_ne nfk]; exact hf7
          have kt2 := tup_upd (o := .lst (vs' ++ [.ref c])) hf9 rfl
          have ktt : ∀ a xs, H7 a = some (.tup xs) → upd (upd H7 ka (.dT ((found' ++ [(List.range n).map (rt r7)]).map fT))) fa (.lst (vs' ++ [.ref c])) a = some (.tup xs) := fun a xs h => kt2 a xs (kt a xs h)
          have hvl : vs'.length = found'.length := paired_len hfp7
          refine ⟨_, rfl, .inl ⟨rfl, _, SqL.of hf9⟩, _, rfl, fa, _, _, rfl, rfl, hf9, line_of (by omega), ?_⟩
          refine ⟨found' ++ [(List.range n).map (rt r7)], vs' ++ [.ref c], _, _, rfl, e9.mut nfa hf9 rfl, upd_same, paired_app (Paired.mapP hfp7 fun _ _ y => y.mono ktt) (.cons ⟨c, rfl, ktt _ _ h7⟩ .nil), ?_, ?_, nodup_snoc hnd' hin, ?_, ?_, ?_⟩
          · rw [upd_ne nfk.symm, upd_same]
          · rw [upd_ne nfp.symm, upd_ne nkp.symm]
            exact hp7
          · intro ρ hρ
            rcases List.mem_append.mp hρ with h | h
            · exact hfc' ρ h
            · rw [List.mem_singleton.mp h]
              exact JO.c
          · intro i ρ h
            have h1 := hpre i ρ h
            rw [List.getElem?_append_left (List.getElem?_eq_some_iff.mp h1).1]
            exact h1
          · intro j π' hj hπ'
            by_cases hji : j < i2
            · obtain ⟨τ, h1, h2⟩ := hjj j π' hji hπ'
              exact ⟨τ, List.mem_append_left _ h1, h2⟩
            · have : j = i2 := by omega
              subst this
              rw [hπ] at hπ'
              cases hπ'
              exact ⟨_, List.mem_append_right _ (List.mem_singleton.mpr rfl), JO⟩
      · subst es
        refine ⟨hp', ?_⟩
        have eU := e'.unlock (l' := pr.map fT) npa hp'
        have hfU : (upd H' pa (.dT (pr.map fT))) fa = some (.lst vs') := by rw [upd_ne nfp]; exact hf'
        have h100' := hN found' hnd' hfc'
        have hvl : vs'.length = found'.length := paired_len hfp'
        have hlen2 : found.length ≤ found'.length := by
          by_cases hz : found.length = 0
          · omega
          · have g : found[found.length - 1]? = some (found[found.length - 1]'(by omega)) := List.getElem?_eq_getElem (by omega)
            have := (List.getElem?_eq_some_iff.mp (hpre _ _ g)).1
            omega
        refine ⟨_, rfl, fa, _, rfl, .inl (SqL.of hfU), _, _, rfl, rfl, _, rfl, iteF (decide_eq_false (by show ¬ (100 : Int) < (vs'.length : Int); omega)) ?_⟩
        refine ⟨_, rfl, _, _, rfl, rfl, ?_⟩
        refine ⟨_, by omega, at' + 1, found', vs', y9, y5, ?_, eU, hfU, Paired.mapP hfp' fun _ _ z => z.mono fun a xs h => by rw [upd_ne (ne_of h hp' fun z => by cases z)]; exact h, by rw [upd_ne nkp]; exact hk', upd_same, hnd', hfc', ?_, by omega, ?_, rfl⟩
        · show [_, _, _, _, _, _, _, _, some (V.int (((at' : Nat) : Int) + 1)), _] = [_, _, _, _, _, _, _, _, some (V.int ((at' + 1 : Nat) : Int)), _]
          rw [Int.natCast_add] <;> rfl
        · exact List.mem_of_getElem? (hpre _ _ (List.mem_iff_getElem?.mp hid).choose_spec)
        · intro i ρ hi hρ π hπ
          by_cases hia : i < at'
          · have hi2 : i < found.length := by omega
            have g : found[i]? = some (found[i]'hi2) := List.getElem?_eq_getElem hi2
            have g2 := hpre _ _ g
            rw [hρ] at g2
            cases g2
            obtain ⟨τ, h1, h2⟩ := hj i _ hia g π hπ
            obtain ⟨i3, h3⟩ := List.mem_iff_getElem?.mp h1
            exact ⟨τ, List.mem_of_getElem? (hpre _ _ h3), h2⟩
          · have : i = at' := by omega
            subst this
            have g2 := hpre _ _ hρ0
            rw [hρ] at g2
            cases g2
            obtain ⟨j3, h3⟩ := List.mem_iff_getElem?.mp hπ
            exact hjj j3 π (by have := (List.getElem?_eq_some_iff.mp h3).1; rw [List.length_map]; exact this) h3
    · have hge' : at' = found.length := by
        have := of_decide_eq_false hge
        rw [hfv] at this
        omega
      refine ⟨_, rfl, fa, vs, found, rfl, rfl, hf, hfp, fun l hl => by have := (hfc l hl).len; omega, by omega, fun q9 vs1 found' hperm hq9 hp1 => ?_⟩
      have f9 := Ext.new (P := P) (w := w) (tb := tb) (C := CM K) (o := .lst vs1) hq9
      refine q _ q9 vs1 found' ((e1.trans e).trans f9) upd_same (Paired.mapP hp1 fun _ _ z => z.ext f9) fun ρ => ?_
      rw [hperm.mem_iff]
      refine ⟨hfc ρ, all_found (pr := pr) ⟨_, hid, cidf⟩ hfc (fun x y hxy hy => hpp x y (by omega) hxy hy) (fun ρ' hρ' π hπ => ?_) ρ⟩
      obtain ⟨i, hi⟩ := List.mem_iff_getElem?.mp hρ'
      exact hj i ρ' (by have := (List.getElem?_eq_some_iff.mp hi).1; omega) hi π hπ
end
end K95
set_option Elab.async false
set_option linter.all false
set_option maxRecDepth 100000
set_option maxHeartbeats 4000000
set_option autoImplicit false
namespace K95
open PySem PySem.Spec PyProof.Rows L2
section
variable {P : Program} {w : World} {K : PySem.W.Frag} {mg : Str → Option Value} {base : Heap} {tb : Tbs}
theorem sc_d_law_congruences : FnScope ["_law_small"] ["_law_small"] d_law_congruences.scope := ⟨rfl, rfl, rfl, by decide +kernel, rfl, by decide +kernel, by decide +kernel⟩
theorem go_law_congruences (T : Txt K mg) : Go P w K mg base "_law_congruences" ["_law_small"] 6 (spCongs P w tb K) := by
  obtain ⟨fd, F⟩ := T.fn 54
  obtain ⟨f_congruences, fd_congruences, m_congruences, k_congruences, b_congruences, G_congruences⟩ := go_congruences (P := P) (w := w) (base := base) (tb := tb) T
  refine ⟨_, fd, T.g_law_congruences, F.kp, F.bindsN (fun _ _ _ _ _ _ us hl => match us, hl with | [_], _ => rfl), okN F sc_d_law_congruences (fun vs H Q E h => by
    obtain ⟨_, _, _, _, rfl, _⟩ := h
    rfl) (fun cdv A outer s H vs Q E rm h => ?_)⟩
  obtain ⟨m, T', n, k, rfl, ok, hM, hG, hn30, hN, q⟩ := h
  refine ⟨_, (pss_one (ps_try_thru0 (pss_one (ps_ret (pe_call G_congruences (rm.mono (by decide)) rfl m_congruences k_congruences b_congruences .nil pass0 (pa_cons (pv 0) pa_nil)))))), ?_⟩
  exact ⟨_, rfl, m, T', n, k, rfl, ok, hM, hG, hn30, hN, q⟩
end
end K95
set_option Elab.async false
set_option linter.all false
set_option maxRecDepth 100000
set_option maxHeartbeats 4000000
set_option autoImplicit false
namespace K95
open PySem PySem.Spec PyProof.Rows L2
section
variable {P : Program} {w : World} {K : PySem.W.Frag} {mg : Str → Option Value} {base : Heap} {tb : Tbs}
def spMixed : Sp := fun vs H Q _ => ∃ (c k : Int), vs = [.int c, .int k] ∧ 0 ≤ k ∧ k ≤ 1000000 ∧ ∀ r : Nat, r < 2147483563 → Q (nv r) H
theorem sc_d_law_mixed : FnScope ["_law_cell", "_law_k", "_law_low"] ["_law_cell", "_law_k"] d_law_mixed.scope := ⟨rfl, rfl, rfl, by decide +kernel, rfl, by decide +kernel, by decide +kernel⟩
theorem go_law_mixed (T : Txt K mg) : Go P w K mg base "_law_mixed" ["_law_cell", "_law_k"] 1 (spMixed) := by
  obtain ⟨fd, F⟩ := T.fn 44
  refine ⟨_, fd, T.g_law_mixed, F.kp, F.bindsN (fun _ _ _ _ _ _ us hl => match us, hl with | [_, _], _ => rfl), okN F sc_d_law_mixed (fun vs H Q E h => by
    obtain ⟨_, _, rfl, _⟩ := h
    rfl) (fun cdv A outer s H vs Q E rm h => ?_)⟩
  obtain ⟨c, k, rfl, hk0, hk1, q⟩ := h
  refine ⟨_, (pss_cons (ps_set (i := 2) sc_d_law_mixed.nd rfl (Or.inl rfl) (pe_op op_add (pe_op op_mod (pe_callTy call_int1 (by rfl) T.n_int boot_int (pa_cons (pv 0) pa_nil)) pe_int) (pe_op op_mul (pe_op op_fdivW (pv 0) pe_int) pe_int)))
      (pss_cons (ps_set (i := 2) sc_d_law_mixed.nd rfl (Or.inl rfl) (pe_op op_mod (pe_callTy call_int1 (by rfl) T.n_int boot_int (pa_cons (pe_op op_mul (pe_op op_add (pe_op op_add (pv 2) (pe_op op_mul pe_int (pv 1))) pe_int) pe_int) pa_nil)) pe_int))
      (pss_cons (ps_set (i := 2) sc_d_law_mixed.nd rfl (Or.inl rfl) (pe_op op_mod (pe_callTy call_int1 (by rfl) T.n_int boot_int (pa_cons (pe_op op_mul (pv 2) (pe_op op_add (pe_op op_add (pe_op op_fdiv (pv 2) pe_int) pe_int) (pv 1))) pa_nil)) pe_int))
      (pss_one (ps_ret (pe_op op_mod (pe_callTy call_int1 (by rfl) T.n_int boot_int (pa_cons (pe_op op_mul (pv 2) (pe_op op_add (pe_op op_fdiv (pv 2) pe_int) pe_int)) pa_nil)) pe_int)))))), ?_⟩
  refine ⟨_, rfl, .inl ⟨c, rfl, _, _, rfl, rfl, (show (0 : Int) < 2147483629 by decide), _, rfl, _, _, rfl, rfl, ⟨by decide, by decide⟩, _, _, rfl, rfl, .inr ⟨by decide, by decide⟩, _, _, rfl, rfl, ?_⟩⟩
  refine ⟨_, rfl, _, rfl, _, _, rfl, rfl, .inl ⟨by decide, by decide⟩, _, _, rfl, rfl, _, _, rfl, rfl, _, _, rfl, rfl, .inr ⟨by decide, by decide⟩, .inl ⟨_, rfl, _, _, rfl, rfl, (show (0 : Int) < 2147483629 by decide), ?_⟩⟩
  refine ⟨_, rfl, _, rfl, _, _, rfl, rfl, ⟨by decide, by decide⟩, _, _, rfl, rfl, _, rfl, _, _, rfl, rfl, _, _, rfl, rfl, .inl ⟨by omega, by omega⟩, .inl ⟨_, rfl, _, _, rfl, rfl, (show (0 : Int) < 2147483587 by decide), ?_⟩⟩
  refine ⟨_, rfl, _, rfl, _, _, rfl, rfl, ⟨by decide, by decide⟩, _, _, rfl, rfl, _, _, rfl, rfl, .inl ⟨by omega, by omega⟩, .inl ⟨_, rfl, _, _, rfl, rfl, (show (0 : Int) < 2147483563 by decide), ?_⟩⟩
  have hq : ∀ z : Int, 0 ≤ z → z < 2147483563 → Q (V.int z) H := fun z h0 h1 => by
    have := q z.toNat (by omega)
    unfold nv at this
    rw [Int.toNat_of_nonneg h0] at this
    exact this
  exact hq _ (Int.emod_nonneg _ (by decide)) (Int.emod_lt_of_pos _ (by decide))
end
end K95
set_option Elab.async false
set_option linter.all false
set_option maxRecDepth 100000
set_option maxHeartbeats 4000000
set_option autoImplicit false
namespace K95
open PySem PySem.Spec PyProof.Rows L2
section
variable {P : Program} {w : World} {K : PySem.W.Frag} {mg : Str → Option Value} {base : Heap} {tb : Tbs}
/-- the script: a list of whole numbers -/
def spCellAt (K : PySem.W.Frag) : Sp := fun vs H Q _ => ∃ (a : Addr) (ns : List Int) (k : Nat), vs = [.ref a, nv k] ∧ SqL K H a (ns.map V.int) ∧ ns.length ≤ 4000 ∧ k ≤ 1000000 ∧ ∀ z : Int, (k < ns.length → ns[k]? = some z) → Q (.int z) H
theorem sc_d_law_cell_at : FnScope ["_law_script", "_law_k"] ["_law_script", "_law_k"] d_law_cell_at.scope := ⟨rfl, rfl, rfl, by decide +kernel, rfl, by decide +kernel, by decide +kernel⟩
theorem go_law_cell_at (T : Txt K mg) : Go P w K mg base "_law_cell_at" ["_law_script", "_law_k"] 1 (spCellAt K) := by
  obtain ⟨fd, F⟩ := T.fn 43
  refine ⟨_, fd, T.g_law_cell_at, F.kp, F.bindsN (fun _ _ _ _ _ _ us hl => match us, hl with | [_, _], _ => rfl), okN F sc_d_law_cell_at (fun vs H Q E h => by
    obtain ⟨_, _, _, rfl, _⟩ := h
    rfl) (fun cdv A outer s H vs Q E rm h => ?_)⟩
  obtain ⟨a, ns, k, rfl, ha, hl, hk, q⟩ := h
  refine ⟨_, (pss_one (ps_ret (pe_ifExp (pt_cmpR (op_lt) (pv 1) (pe_callB call_len_seq (by rfl) T.n_len boot_len (pa_cons (pv 0) pa_nil)) (nomark _)) (pe_ix ix_list (pv 0) (pv 1) (fun _ _ => rfl)) pe_int))), ?_⟩
  refine ⟨_, rfl, _, rfl, a, _, rfl, .inl ha, _, _, rfl, rfl, _, rfl, ite2 (fun h => ?_) fun h => ?_⟩
  · have h1 : k < ns.length := by
      have := of_decide_eq_true h
      rw [List.length_map] at this
      omega
    have g : ns[k]? = some (ns[k]'h1) := List.getElem?_eq_getElem h1
    exact ⟨_, rfl, _, rfl, _, _, _, _, rfl, rfl, ha, atI_nat (v := V.int (ns[k]'h1)) (by rw [List.getElem?_map, g]; rfl), q _ fun _ => g⟩
  · have h1 : ¬ k < ns.length := by
      have := of_decide_eq_false h
      rw [List.length_map] at this
      omega
    exact q 0 fun z => absurd z h1
/-- a source of draws: its number, the number again, how many were drawn -/
def SrcAt (H : Hp) (p : Addr) : Prop := ∃ (x c : Int) (t : Nat), H p = some (.lst [.int x, .int c, nv t]) ∧ t ≤ 4000
end
end K95
set_option Elab.async false
set_option linter.all false
set_option maxRecDepth 100000
set_option maxHeartbeats 4000000
set_option autoImplicit false
namespace K95
open PySem PySem.Spec PyProof.Rows L2
section
variable {P : Program} {w : World} {K : PySem.W.Frag} {mg : Str → Option Value} {base : Heap} {tb : Tbs}
def spSource (P : Program) (w : World) (tb : Tbs) (K : PySem.W.Frag) : Sp := fun vs H Q _ => ∃ (a : Addr) (ns : List Int) (k : Nat), vs = [.ref a, nv k] ∧ SqL K H a (ns.map V.int) ∧ ns.length ≤ 4000 ∧ k ≤ 1000 ∧
  ∀ H' p, Ext P w tb (CM K) H H' → Nw H p → (∃ x : Int, H' p = some (.lst [.int x, .int x, nv 0])) → Q (.ref p) H'
theorem sc_d_law_source : FnScope ["_law_script", "_law_k", "_law_cell"] ["_law_script", "_law_k"] d_law_source.scope := ⟨rfl, rfl, rfl, by decide +kernel, rfl, by decide +kernel, by decide +kernel⟩
theorem go_law_source (T : Txt K mg) : Go P w K mg base "_law_source" ["_law_script", "_law_k"] 2 (spSource P w tb K) := by
  obtain ⟨fd, F⟩ := T.fn 45
  obtain ⟨f_law_mixed, fd_law_mixed, m_law_mixed, k_law_mixed, b_law_mixed, G_law_mixed⟩ := go_law_mixed (P := P) (w := w) (base := base)  T
  obtain ⟨f_law_cell_at, fd_law_cell_at, m_law_cell_at, k_law_cell_at, b_law_cell_at, G_law_cell_at⟩ := go_law_cell_at (P := P) (w := w) (base := base)  T
  refine ⟨_, fd, T.g_law_source, F.kp, F.bindsN (fun _ _ _ _ _ _ us hl => match us, hl with | [_, _], _ => rfl), okN F sc_d_law_source (fun vs H Q E h => by
    obtain ⟨_, _, _, rfl, _⟩ := h
    rfl) (fun cdv A outer s H vs Q E rm h => ?_)⟩
  obtain ⟨a, ns, k, rfl, ha, hl, hk, q⟩ := h
  refine ⟨_, (pss_cons (ps_if (pt_cmpR (op_lt) (pv 1) (pe_callB call_len_seq (by rfl) T.n_len boot_len (pa_cons (pv 0) pa_nil)) (nomark _)) (pss_one (ps_ret (pe_lst (pa_cons (pe_ix ix_list (pv 0) (pv 1) (fun _ _ => rfl)) (pa_cons (pe_ix ix_list (pv 0) (pv 1) (fun _ _ => rfl)) (pa_cons pe_int pa_nil)))))) pss_nil)
      (pss_cons (ps_set (i := 2) sc_d_law_source.nd rfl (Or.inl rfl) (pe_call G_law_mixed (rm.mono (by decide)) rfl m_law_mixed k_law_mixed b_law_mixed .nil pass0 (pa_cons (pe_call G_law_cell_at (rm.mono (by decide)) rfl m_law_cell_at k_law_cell_at b_law_cell_at .nil pass0 (pa_cons (pv 0) (pa_cons pe_int pa_nil))) (pa_cons (pe_op op_add pe_int (pv 1)) pa_nil))))
      (pss_one (ps_ret (pe_lst (pa_cons (pv 2) (pa_cons (pv 2) (pa_cons pe_int pa_nil)))))))), ?_⟩
  refine ⟨_, rfl, _, rfl, a, _, rfl, .inl ha, _, _, rfl, rfl, _, rfl, ite2 (fun h => ?_) fun h => ?_⟩
  · have h1 : k < ns.length := by
      have := of_decide_eq_true h
      rw [List.length_map] at this
      omega
    have g : ns[k]? = some (ns[k]'h1) := List.getElem?_eq_getElem h1
    have gv := atI_nat (xs := ns.map V.int) (j := k) (v := V.int (ns[k]'h1)) (by rw [List.getElem?_map, g]; rfl)
    exact ⟨_, rfl, _, rfl, _, _, _, _, rfl, rfl, ha, gv, _, rfl, _, rfl, _, _, _, _, rfl, rfl, ha, gv, (by show 3 ≤ sizeLine; decide), fun p hp => q _ p (.new hp) (.of hp) ⟨_, upd_same⟩⟩
  · refine ⟨_, rfl, a, ns, 0, rfl, ha, hl, by omega, fun z _ => ⟨_, rfl, _, _, rfl, rfl, z, 1000 + (k : Int), rfl, by omega, by omega, fun r hr => ?_⟩⟩
    exact ⟨_, rfl, _, rfl, (by show 3 ≤ sizeLine; decide), fun p hp => q _ p (.new hp) (.of hp) ⟨_, upd_same⟩⟩
end
end K95
set_option Elab.async false
set_option linter.all false
set_option maxRecDepth 100000
set_option maxHeartbeats 4000000
set_option autoImplicit false
namespace K95
open PySem PySem.Spec PyProof.Rows L2
/-! ### the law's own tables -/
def IntLst (H : Hp) (v : V) (l : List Nat) : Prop := ∃ a, v = .ref a ∧ H a = some (.lst (nvs l))
/-- a list of lists -/
def TabLL (H : Hp) (a : Addr) (T : Tab) : Prop := ∃ vs, H a = some (.lst vs) ∧ Paired (IntLst H) vs T
/-- a list of tuples -/
def RowsLT (H : Hp) (a : Addr) (T : Tab) : Prop := ∃ vs, H a = some (.lst vs) ∧ Paired (IntTup H) vs T
section
variable {P : Program} {w : World} {tb : Tbs} {C : Addr} {H H' : Hp} {a : Addr} {T : Tab}
theorem IntLst.ext (e : Ext P w tb C H H') {v : V} {l : List Nat} (h : IntLst H v l) : IntLst H' v l := by
  obtain ⟨a, r, h⟩ := h
  exact ⟨a, r, e.lst h⟩
theorem TabLL.ext (e : Ext P w tb C H H') (h : TabLL H a T) : TabLL H' a T := by
  obtain ⟨vs, h1, h2⟩ := h
  exact ⟨vs, e.lst h1, Paired.mapP h2 fun _ _ z => z.ext e⟩
theorem RowsLT.ext (e : Ext P w tb C H H') (h : RowsLT H a T) : RowsLT H' a T := by
  obtain ⟨vs, h1, h2⟩ := h
  exact ⟨vs, e.lst h1, Paired.mapP h2 fun _ _ z => z.ext e⟩
theorem TabLL.row {x : Nat} {row : List Nat} (h : TabLL H a T) (hx : T[x]? = some row) : ∃ vs b, H a = some (.lst vs) ∧ vs[x]? = some (.ref b) ∧ H b = some (.lst (nvs row)) := by
  obtain ⟨vs, h1, h2⟩ := h
  obtain ⟨v, e1, b, rfl, e2⟩ := paired_get h2 hx
  exact ⟨vs, b, h1, e1, e2⟩
theorem RowsLT.row {x : Nat} {row : List Nat} (h : RowsLT H a T) (hx : T[x]? = some row) : ∃ vs b, H a = some (.lst vs) ∧ vs[x]? = some (.ref b) ∧ H b = some (.tup (nvs row)) := by
  obtain ⟨vs, h1, h2⟩ := h
  obtain ⟨v, e1, b, rfl, e2⟩ := paired_get h2 hx
  exact ⟨vs, b, h1, e1, e2⟩
theorem RowsLT.tabO (h : RowsLT H a T) : TabO H (.ref a) T := by
  obtain ⟨vs, h1, h2⟩ := h
  exact ⟨vs, ⟨a, rfl, .inr h1⟩, Paired.mapP h2 fun _ _ ⟨b, e, z⟩ => ⟨b, e, .inl z⟩⟩
end
/-- all products -/
def prodT (T : Tab) (n : Nat) : Tab := (List.range n).map fun x => (List.range n).map fun y => mul T x y
theorem prodT_get {T : Tab} {n x y : Nat} (hx : x < n) (hy : y < n) : ∃ r, (prodT T n)[x]? = some r ∧ r[y]? = some (mul T x y) := by
  refine ⟨(List.range n).map fun y => mul T x y, ?_, ?_⟩
  · unfold prodT
    rw [List.getElem?_map, List.getElem?_range hx] <;> rfl
  · rw [List.getElem?_map, List.getElem?_range hy] <;> rfl
end K95
set_option Elab.async false
set_option linter.all false
set_option maxRecDepth 100000
set_option maxHeartbeats 4000000
set_option autoImplicit false
namespace K95
open PySem PySem.Spec PyProof.Rows L2
/-! ### all but what stands at p -/
def Hide (p : Addr) (H : Hp) : Hp := fun a => if a = p then none else H a
section
variable {P : Program} {w : World} {tb : Tbs} {C p a q : Addr} {H H' : Hp} {o o' : HO} {z : Int} {zs : List V}
theorem hide_ne (h : a ≠ p) : Hide p H a = H a := by unfold Hide; rw [if_neg h]
theorem hide_p : Hide p H p = none := by unfold Hide; rw [if_pos rfl]
theorem hide_some (h : Hide p H a = some o) : H a = some o ∧ a ≠ p := by
  by_cases e : a = p
  · subst e
    rw [hide_p] at h
    cases h
  · rw [hide_ne e] at h
    exact ⟨h, e⟩
theorem hide_of (h : H a = some o) (hp : H p = some o') (n : o ≠ o') : Hide p H a = some o := by
  rw [hide_ne fun e => by subst e; rw [h] at hp; cases hp; exact n rfl]
  exact h
theorem hide_none (h : H a = none) : Hide p H a = none := by
  by_cases e : a = p
  · subst e; exact hide_p
  · rw [hide_ne e]; exact h
theorem hide_upd_p : Hide p (upd H p o) = Hide p H := by
  funext b
  by_cases e : b = p
  · subst e
    rw [hide_p, hide_p]
  · rw [hide_ne e, hide_ne e, upd_ne e]
theorem hide_upd (h : q ≠ p) : Hide p (upd H q o) = upd (Hide p H) q o := by
  funext b
  by_cases e : b = p
  · subst e
    rw [hide_p, upd_ne h.symm, hide_p]
  · rw [hide_ne e]
    by_cases e2 : b = q
    · subst e2
      rw [upd_same, upd_same]
    · rw [upd_ne e2, upd_ne e2, hide_ne e]
theorem okk_hide (hp : H p = some (.lst zs)) : Okk tb C (Hide p H) ↔ Okk tb C H := by
  constructor
  · intro h
    refine ⟨fun t ht => ?_, fun m1 m2 dx1 dx2 r1 r2 t1 t2 l1 l2 d h1 h2 => ?_, fun m dx r t l d hm => ?_⟩
    · obtain ⟨ps, h1, h2, h3⟩ := h.tab t ht
      exact ⟨ps, (hide_some h1).1, h2, fun pos cv hc => by
        obtain ⟨c, e1, e2⟩ := h3 pos cv hc
        exact ⟨c, e1, (hide_some e2).1⟩⟩
    · exact h.sep m1 m2 dx1 dx2 r1 r2 t1 t2 l1 l2 d (hide_of h1 hp fun y => by cases y) (hide_of h2 hp fun y => by cases y)
    · obtain ⟨es, h1⟩ := h.dm m dx r t l d (hide_of hm hp fun y => by cases y)
      exact ⟨es, (hide_some h1).1⟩
  · intro h
    refine ⟨fun t ht => ?_, fun m1 m2 dx1 dx2 r1 r2 t1 t2 l1 l2 d h1 h2 => ?_, fun m dx r t l d hm => ?_⟩
    · obtain ⟨ps, h1, h2, h3⟩ := h.tab t ht
      exact ⟨ps, hide_of h1 hp (fun y => by cases y), h2, fun pos cv hc => by
        obtain ⟨c, e1, e2⟩ := h3 pos cv hc
        exact ⟨c, e1, hide_of e2 hp fun y => by unfold LamX.CodeO at y; cases y⟩⟩
    · exact h.sep m1 m2 dx1 dx2 r1 r2 t1 t2 l1 l2 d (hide_some h1).1 (hide_some h2).1
    · obtain ⟨es, h1⟩ := h.dm m dx r t l d (hide_some hm).1
      exact ⟨es, hide_of h1 hp fun y => by unfold MemO at y; cases y⟩
theorem mon_hide {m : Addr} {T : Tab} (hp : H p = some (.lst (.int z :: zs))) : MonAt P w C (Hide p H) m T ↔ MonAt P w C H m T := by
  constructor
  · rintro ⟨g, dx, r, t, l, d, hB, hM⟩
    refine ⟨g, dx, r, t, l, d, hB.mono fun a o h _ => (hide_some h).1, ?_⟩
    obtain ⟨es, xs, h1, _⟩ := id hM
    exact hM.mono (fun a xs h => (hide_some h).1) (fun a od u h => (hide_some h).1) (hide_ne (hide_some h1).2).symm
  · rintro ⟨g, dx, r, t, l, d, hB, hM⟩
    have kt : ∀ a xs, H a = some (.tup xs) → Hide p H a = some (.tup xs) := fun a xs h => hide_of h hp fun y => by cases y
    obtain ⟨b1, b2, ⟨vs, b3, b4⟩, b5⟩ := hB
    refine ⟨g, dx, r, t, l, d, ⟨hide_of b1 hp fun y => (by cases y), b2.mono kt, ⟨vs, hide_of b3 hp fun y => (by cases y), Paired.mapP b4 fun _ _ y => y.mono kt⟩, b5.mono kt⟩, ?_⟩
    obtain ⟨es, xs, h1, _⟩ := id hM
    exact hM.mono kt (fun a od u h => hide_of h hp fun y => by cases y) (hide_ne fun e => by subst e; rw [h1] at hp; unfold MemO at hp; cases hp)
theorem Ext.hide (e : Ext P w tb C H H') (hp : H p = some (.lst (.int z :: zs))) : Ext P w tb C (Hide p H) (Hide p H') := by
  have hp' := e.lst hp
  refine ⟨fun a o h q => ?_, fun c x h => ?_, fun h => (okk_hide hp').mpr (e.ok ((okk_hide hp).mp h)), fun h m T y => (mon_hide hp').mpr (e.mon ((okk_hide hp).mp h) m T ((mon_hide hp).mp y))⟩
  · obtain ⟨h1, h2⟩ := hide_some h
    rw [hide_ne h2]
    exact e.keep a o h1 q
  · obtain ⟨h1, h2⟩ := hide_some h
    rw [hide_ne h2]
    exact e.code c x h1
/-- a list of rows is not the source -/
theorem RowsLT.hide {r : Addr} {T : Tab} {n k : Nat} (h : RowsLT H r T) (F : Form T n k) (hp : H p = some (.lst (.int z :: zs))) : RowsLT (Hide p H) r T := by
  obtain ⟨vs, h1, h2⟩ := h
  have kt : ∀ a xs, H a = some (.tup xs) → Hide p H a = some (.tup xs) := fun a xs h => hide_of h hp fun y => by cases y
  refine ⟨vs, hide_of h1 hp fun y => ?_, Paired.mapP h2 fun _ _ y => y.mono kt⟩
  have e := HO.lst.inj y
  subst e
  cases T with
  | nil =>
    have h3 := F.len
    have h4 := F.n1
    simp at h3
    omega
  | cons row T =>
    obtain ⟨v, e1, b, e2, _⟩ := paired_get h2 (i := 0) (y := row) rfl
    cases e1
    cases e2
theorem unhide_rows {r : Addr} {T : Tab} (h : RowsLT (Hide p H) r T) : RowsLT H r T := by
  obtain ⟨vs, h1, h2⟩ := h
  exact ⟨vs, (hide_some h1).1, Paired.mapP h2 fun _ _ y => y.mono fun a xs h => (hide_some h).1⟩
/-! ### a source that is drawn from -/
def srcO (x c : Int) (t : Nat) : HO := .lst [.int x, .int c, nv t]
/-- all but the source is kept, and it is drawn from not too often -/
structure DrI (P : Program) (w : World) (tb : Tbs) (C p : Addr) (c : Int) (t0 b : Nat) (H0 H : Hp) : Prop where
  e : Ext P w tb C (Hide p H0) (Hide p H)
  s : ∃ (x : Int) (t : Nat), H p = some (srcO x c t) ∧ t ≤ t0 + b
theorem DrI.refl {x c : Int} {t : Nat} (h : H p = some (srcO x c t)) : DrI P w tb C p c t 0 H H := ⟨.refl _, x, t, h, Nat.le_refl _⟩
theorem DrI.mono {c : Int} {t b b' : Nat} (h : DrI P w tb C p c t b H H') (hb : b ≤ b') : DrI P w tb C p c t b' H H' := by
  obtain ⟨e, x, t', h1, h2⟩ := h
  exact ⟨e, x, t', h1, by omega⟩
theorem DrI.trans {H2 : Hp} {c : Int} {t t1 b b2 : Nat} {x1 : Int} (h : DrI P w tb C p c t b H H') (_h1 : H' p = some (srcO x1 c t1)) (hb : t1 ≤ t + b) (h2 : DrI P w tb C p c t1 b2 H' H2) : DrI P w tb C p c t (b + b2) H H2 := by
  obtain ⟨e2, x, t', h3, h4⟩ := h2
  exact ⟨h.e.trans e2, x, t', h3, by omega⟩
theorem DrI.next {c x' : Int} {t b t' : Nat} (h : DrI P w tb C p c t b H H') (ht : t' ≤ t + b + 1) : DrI P w tb C p c t (b + 1) H (upd H' p (srcO x' c t')) :=
  ⟨by rw [hide_upd_p]; exact h.e, x', t', upd_same, by omega⟩
theorem DrI.call {H2 : Hp} {c : Int} {t b : Nat} (h : DrI P w tb C p c t b H H') (e : Ext P w tb C H' H2) : DrI P w tb C p c t b H H2 := by
  obtain ⟨e1, x, t', h1, h2⟩ := h
  exact ⟨e1.trans (e.hide h1), x, t', e.lst h1, h2⟩
theorem DrI.new {c : Int} {t b : Nat} (h : DrI P w tb C p c t b H H') (hq : H' q = none) (n : ∀ dx r t l d, o ≠ .ins C dx (mflds r t l d) := by intro _ _ _ _ _ z; cases z) : DrI P w tb C p c t b H (upd H' q o) := h.call (Ext.new hq n)
theorem DrI.nw {c : Int} {t b : Nat} (h : DrI P w tb C p c t b H H') (hq : H' q = none) : Nw (Hide p H) q := h.e.nw (hide_none hq)
theorem DrI.ne {c : Int} {t b : Nat} (h : DrI P w tb C p c t b H H') (hq : H' q = none) : q ≠ p := by
  obtain ⟨_, x, t', h1, _⟩ := h
  intro z
  subst z
  rw [hq] at h1
  cases h1
theorem DrI.mut {c : Int} {t b : Nat} (h : DrI P w tb C p c t b H H') (n : Nw (Hide p H) q) (hq : H' q = some o') (m : mutO o' = true) (ne : q ≠ p) (qn : ∀ dx r t l d, o ≠ .ins C dx (mflds r t l d) := by intro _ _ _ _ _ z; cases z) : DrI P w tb C p c t b H (upd H' q o) := by
  obtain ⟨e1, x, t', h1, h2⟩ := h
  have hq' : Hide p H' q = some o' := by rw [hide_ne ne]; exact hq
  refine ⟨?_, x, t', by rw [upd_ne ne.symm]; exact h1, h2⟩
  rw [hide_upd ne]
  exact e1.mut n hq' m qn
end
end K95
set_option Elab.async false
set_option linter.all false
set_option maxRecDepth 100000
set_option maxHeartbeats 4000000
set_option autoImplicit false
namespace K95
open PySem PySem.Spec PyProof.Rows L2
section
variable {P : Program} {w : World} {K : PySem.W.Frag} {mg : Str → Option Value} {base : Heap} {tb : Tbs}
def spNext : Sp := fun vs H Q _ => ∃ (p : Addr) (x c : Int) (t m : Nat), vs = [.ref p, nv m] ∧ H p = some (srcO x c t) ∧ t ≤ 900000 ∧ 1 ≤ m ∧ m ≤ 1000000 ∧ ∀ (x' : Int) (r : Nat), r < m → ∀ t', t' ≤ t + 1 → Q (nv r) (upd H p (srcO x' c t'))
theorem sc_d_law_next : FnScope ["_law_source_here", "_law_many", "_law_found"] ["_law_source_here", "_law_many"] d_law_next.scope := ⟨rfl, rfl, rfl, by decide +kernel, rfl, by decide +kernel, by decide +kernel⟩
theorem go_law_next (T : Txt K mg) : Go P w K mg base "_law_next" ["_law_source_here", "_law_many"] 2 (spNext) := by
  obtain ⟨fd, F⟩ := T.fn 46
  obtain ⟨f_law_mixed, fd_law_mixed, m_law_mixed, k_law_mixed, b_law_mixed, G_law_mixed⟩ := go_law_mixed (P := P) (w := w) (base := base)  T
  refine ⟨_, fd, T.g_law_next, F.kp, F.bindsN (fun _ _ _ _ _ _ us hl => match us, hl with | [_, _], _ => rfl), okN F sc_d_law_next (fun vs H Q E h => by
    obtain ⟨_, _, _, _, _, rfl, _⟩ := h
    rfl) (fun cdv A outer s H vs Q E rm h => ?_)⟩
  obtain ⟨p, x, c, t, m, rfl, hp, ht, hm1, hm2, q⟩ := h
  refine ⟨_, (pss_cons (ps_if (pt_cmpR (op_ge) (pe_ix ix_list (pv 0) pe_int (fun _ _ => rfl)) (pe_op op_pow pe_int pe_int) (nomark _)) (pss_cons (ps_set (i := 2) sc_d_law_next.nd rfl (Or.inl rfl) (pe_op op_mod (pe_callTy call_int1 (by rfl) T.n_int boot_int (pa_cons (pe_ix ix_list (pv 0) pe_int (fun _ _ => rfl)) pa_nil)) (pv 1)))
      (pss_cons (ps_asg (pe_op op_fdivW (pe_ix ix_list (pv 0) pe_int (fun _ _ => rfl)) (pv 1)) (pg_sub (pv 0) pe_int set_list))
      (pss_one (ps_ret (pv 2))))) pss_nil)
      (pss_cons (ps_asg (pe_op op_add (pe_ix ix_list (pv 0) pe_int (fun _ _ => rfl)) pe_int) (pg_sub (pv 0) pe_int set_list))
      (pss_one (ps_ret (pe_op op_mod (pe_callTy call_int1 (by rfl) T.n_int boot_int (pa_cons (pe_call G_law_mixed (rm.mono (by decide)) rfl m_law_mixed k_law_mixed b_law_mixed .nil pass0 (pa_cons (pe_ix ix_list (pv 0) pe_int (fun _ _ => rfl)) (pa_cons (pe_ix ix_list (pv 0) pe_int (fun _ _ => rfl)) pa_nil))) pa_nil)) (pv 1)))))), ?_⟩
  have hp' : H p = some (.lst [.int x, .int c, nv t]) := hp
  have hm : (0 : Int) < (m : Int) := by omega
  have hr : ∀ z : Int, ∃ r : Nat, r < m ∧ V.int (z % (m : Int)) = nv r := fun z => by
    have h1 := Int.emod_nonneg z (b := (m : Int)) (by omega)
    have h2 := Int.emod_lt_of_pos z hm
    refine ⟨(z % (m : Int)).toNat, by omega, ?_⟩
    unfold nv
    rw [Int.toNat_of_nonneg h1]
  refine ⟨_, rfl, _, _, _, _, rfl, rfl, SqL.of hp', atI_nat (j := 0) rfl, _, _, rfl, rfl, ⟨by decide, by decide, by decide⟩, _, _, rfl, rfl, _, rfl, ite2 (fun h => ?_) fun h => ?_⟩
  · refine ⟨_, rfl, _, _, _, _, rfl, rfl, SqL.of hp', atI_nat (j := 0) rfl, .inl ⟨_, rfl, _, rfl, _, _, rfl, rfl, hm, ?_⟩⟩
    obtain ⟨r, hr1, hr2⟩ := hr x
    refine ⟨_, rfl, _, _, _, _, rfl, rfl, SqL.of hp', atI_nat (j := 0) rfl, _, rfl, _, _, rfl, rfl, ⟨hm, ?_⟩, ?_⟩
    · have h1 : (m : Int).natAbs = m := Int.natAbs_natCast m
      rw [h1]
      have : m.log2 ≤ m := Nat.log2_le_self m
      exact Nat.lt_of_lt_of_le (Nat.log2_lt (by omega) |>.mpr (show m < 2 ^ 20 by omega)) (by decide)
    · refine ⟨_, rfl, p, _, _, 0, rfl, rfl, hp', ixN_of (by show 0 < 3; decide), ?_⟩
      refine ⟨_, rfl, ?_⟩
      have := q (x / (m : Int)) r hr1 t (by omega)
      rw [← hr2] at this
      exact this
  · refine ⟨_, rfl, _, _, _, _, rfl, rfl, SqL.of hp', atI_nat (j := 2) rfl, _, _, rfl, rfl, ?_⟩
    refine ⟨_, rfl, p, _, _, 2, rfl, rfl, hp', ixN_of (by show 2 < 3; decide), ?_⟩
    have hq : (upd H p (.lst [.int x, .int c, V.int ((t : Int) + 1)])) p = some (.lst [.int x, .int c, V.int ((t : Int) + 1)]) := upd_same
    refine ⟨_, rfl, _, _, _, _, rfl, rfl, SqL.of hq, atI_nat (j := 1) rfl, _, rfl, _, _, _, _, rfl, rfl, SqL.of hq, atI_nat (j := 2) rfl, c, (t : Int) + 1, rfl, by omega, by omega, fun r0 hr0 => .inl ⟨_, rfl, _, rfl, _, _, rfl, rfl, hm, ?_⟩⟩
    obtain ⟨r, hr1, hr2⟩ := hr r0
    have := q x r hr1 (t + 1) (by omega)
    rw [← hr2] at this
    exact this
end
end K95
set_option Elab.async false
set_option linter.all false
set_option maxRecDepth 100000
set_option maxHeartbeats 4000000
set_option autoImplicit false
namespace K95
open PySem PySem.Spec PyProof.Rows L2
section
variable {P : Program} {w : World} {K : PySem.W.Frag} {mg : Str → Option Value} {base : Heap} {tb : Tbs}
theorem sc_d_law_rows : FnScope ["_law_size", "_law_length", "_law_found", "_law_turn", "_law_longer", "_law_row", "_law_number"] ["_law_size", "_law_length"] d_law_rows.scope := ⟨rfl, rfl, rfl, by decide +kernel, rfl, by decide +kernel, by decide +kernel⟩
theorem go_law_rows (T : Txt K mg) : Go P w K mg base "_law_rows" ["_law_size", "_law_length"] 1 (spAllRows P w tb K) := by
  obtain ⟨fd, F⟩ := T.fn 50
  refine ⟨_, fd, T.g_law_rows, F.kp, F.bindsN (fun _ _ _ _ _ _ us hl => match us, hl with | [_, _], _ => rfl), okN F sc_d_law_rows (fun vs H Q E h => by
    obtain ⟨_, _, rfl, _⟩ := h
    rfl) (fun cdv A outer s H vs Q E rm h => ?_)⟩
  obtain ⟨n, k, rfl, n1, hb, hn, hk, q⟩ := h
  refine ⟨_, (pss_cons (ps_set (i := 2) sc_d_law_rows.nd rfl (Or.inl rfl) (pe_lst (pa_cons (pe_tup pa_nil) pa_nil)))
      (pss_cons (ps_for PassesOwn.never rfl (pi_range1 rfl T.n_range (pa_cons (pv 1) pa_nil)) (pg_name (i := 3) sc_d_law_rows.nd rfl (Or.inl rfl))
      (pss_cons (ps_set (i := 4) sc_d_law_rows.nd rfl (Or.inl rfl) (pe_lst pa_nil))
      (pss_cons (ps_for PassesOwn.never rfl (pi_list (pv 2)) (pg_name (i := 5) sc_d_law_rows.nd rfl (Or.inr rfl))
      (pss_one (ps_expr (pe_bm PySem.F.plainAttrs_list PySem.F.slot_list_extend PySem.F.type_list_extend mt_extend (pv 4) (pa_cons (pe_lc (own := [("_law_number", 6)]) (g := gName 6) rfl sc_d_law_rows.nd (pi_range1 rfl T.n_range (pa_cons (pv 0) pa_nil)) (blkOk_by (N := ["_law_size", "_law_length", "_law_found", "_law_turn", "_law_longer", "_law_row", "_law_number"]) (sc := d_law_rows.scope) (by decide +kernel)) (fun _ _ _ _ _ => (pg_name (i := 6) sc_d_law_rows.nd rfl (Or.inl rfl))) (fun _ _ _ _ _ => pts_nil) (fun _ _ _ _ _ => pe_c (pe_op op_catA (pv 5) (pe_tup (pa_cons (pv 6) pa_nil))))) pa_nil)))))
      (pss_one (ps_set (i := 2) sc_d_law_rows.nd rfl (Or.inl rfl) (pv 4))))))
      (pss_one (ps_ret (pv 2))))), ?_⟩
  refine ⟨(by show 0 ≤ sizeLine; decide), fun t0 ht0 => ?_⟩
  have e0 := Ext.new (P := P) (w := w) (tb := tb) (C := CM K) (o := .tup []) ht0
  refine ⟨(by show 1 ≤ sizeLine; decide), fun p0 hp0 => ?_⟩
  have e1 := e0.trans (Ext.new (P := P) (w := w) (tb := tb) (C := CM K) (o := .lst [.ref t0]) hp0)
  refine ⟨_, rfl, (k : Int), rfl, by omega, by omega, for_it walk_range (fun i σ H' => ∃ p vs' y3 y4 y5, σ = [some (nv n), some (nv k), some (.ref p), y3, y4, y5, none] ∧ Ext P w tb (CM K) H H' ∧ H' p = some (.lst vs') ∧ Paired (IntTup H') vs' (rowsL n i)) ⟨p0, [.ref t0], none, none, none, rfl, e1, upd_same, .cons ⟨t0, rfl, (Ext.new (P := P) (w := w) (tb := tb) (C := CM K) (o := .lst [.ref t0]) hp0).tup upd_same⟩ .nil⟩ (fun _ _ _ _ _ => trivial)
    (fun i x σ H' H6 hi ⟨p, vs', y3, y4, y5, es, e, hp, hpd⟩ hy => ?_) fun σ H' ⟨p, vs', y3, y4, y5, es, e, hp, hpd⟩ => ?_⟩
  · obtain ⟨rfl, rfl⟩ := hy
    subst es
    have hi' : i < k := hi
    have hlen : vs'.length = n ^ i := by rw [paired_len hpd, rowsL_len]
    have hle : n ^ (i + 1) ≤ n ^ k := Nat.pow_le_pow_right n1 hi'
    have hpow : n ^ i * n ≤ 10000 := by rw [← Nat.pow_succ]; exact Nat.le_trans hle hb
    refine ⟨Nat.zero_le _, fun D hD => ?_⟩
    have eD := Ext.new (P := P) (w := w) (tb := tb) (C := CM K) (o := .lst []) hD
    have nD : Nw H6 D := .of hD
    refine ⟨_, rfl, p, rfl, ⟨_, SqL.of (eD.lst hp)⟩, for_it (walk_list (xs := vs')) (fun a σ H' => ∃ zs y5, σ = [some (nv n), some (nv k), some (.ref p), some (.int (0 + (i : Int))), some (.ref D), y5, none] ∧ Ext P w tb (CM K) H6 H' ∧ H' D = some (.lst zs) ∧ Paired (IntTup H') zs (((rowsL n i).take a).flatMap fun r => (List.range n).map fun j => r ++ [j])) ⟨[], y5, rfl, eD, upd_same, .nil⟩ (fun a σ H' _ ⟨_, _, _, ez, _⟩ => SqL.of (ez.lst hp)) (fun a x σ H' H7 ha ⟨zs, y5, es, ez, hz, pz⟩ hy => ?_) fun σ H' ⟨zs, y5, es, ez, hz, pz⟩ => ?_⟩
    · obtain ⟨rfl, hx⟩ := hy
      subst es
      obtain ⟨r, gr, vr, rfl, hrr⟩ := paired_get' hpd hx
      have hzl : zs.length + n ≤ 10000 := by
        rw [paired_len pz, flat_len (n := n) (fun x _ => by simp)]
        have ha' : a < n ^ i := by rw [← hlen]; exact ha
        have h1 : ((rowsL n i).take a).length ≤ a := by rw [List.length_take]; exact Nat.min_le_left _ _
        have h2 := Nat.mul_le_mul_right n h1
        have h3 := Nat.mul_le_mul_right n (show a + 1 ≤ n ^ i by omega)
        rw [Nat.add_mul] at h3
        omega
      have hr7 := ez.tup hrr
      refine ⟨_, rfl, .inl ⟨rfl, _, SqL.of hz⟩, ?_⟩
      refine ⟨_, rfl, (n : Int), rfl, by omega, by omega, ?_⟩
      refine lc_r (P := P) (w := w) (tb := tb) (C := CM K) (lo := 0) (n := n) (fun _ j y H => IntTup H y (r ++ [j])) (fun D j y H H' acc hD k r => r.kp hD k) (by omega) (fun _ => ?_) (fun D2 j H5 acc hj e5 hD2 hac Qk qk => ?_) (fun D2 H5 ys hD2 e5 hy hl5 hr5 => ?_)
      · rfl
      · have hr5 := e5.tup hr7
        have hrlen : r.length ≤ 10000 := by
          have := (rowsL_mem.mp (List.mem_of_getElem? gr)).1
          omega
        refine ⟨_, rfl, _, rfl, (by show 1 ≤ sizeLine; decide), fun t ht => ?_⟩
        have et := Ext.new (P := P) (w := w) (tb := tb) (C := CM K) (o := .tup [.int (0 + (j : Int))]) ht
        refine ⟨vr, t, _, _, rfl, rfl, SqT.of (et.tup hr5), SqT.of upd_same, by rw [nvs_len]; exact Nat.le_of_lt (line_of (by simp; omega)), fun h0 => ?_, (fun _ h1 => absurd h1 (by simp)), fun h0 _ p2 hp2 => ?_⟩
        · have hr0 : r = [] := by
            unfold nvs at h0
            exact List.map_eq_nil_iff.mp h0
          refine qk _ _ et ⟨t, rfl, ?_⟩
          rw [upd_same, hr0]
          show some (HO.tup [V.int (0 + (j : Int))]) = _
          rw [Int.zero_add] <;> rfl
        · refine qk _ _ (et.trans (Ext.new hp2)) ⟨p2, rfl, ?_⟩
          rw [upd_same]
          unfold nvs
          rw [List.map_append]
          show some (HO.tup (_ ++ [V.int (0 + (j : Int))])) = _
          rw [Int.zero_add] <;> rfl
      · have hz5 := e5.lst hz
        refine ⟨D, D2, _, _, rfl, rfl, hz5, hy, Nat.le_of_lt (line_of (by omega)), zs ++ ys, _, rfl, (ez.trans e5).mut nD hz5 rfl, upd_same, ?_⟩
        have kt := tup_upd (o := .lst (zs ++ ys)) hz5 rfl
        rw [List.take_add_one, gr, List.flatMap_append]
        refine paired_app (Paired.mapP pz fun _ _ z => (z.ext e5).mono kt) ?_
        show Paired _ ys ([r].flatMap fun r => (List.range n).map fun j => r ++ [j])
        rw [List.flatMap_cons, List.flatMap_nil, List.append_nil]
        refine paired_of (by rw [hl5]; simp) fun j y x hy hx => ?_
        rw [List.getElem?_map] at hx
        obtain ⟨j', hj', rfl⟩ := Option.map_eq_some_iff.mp hx
        have hj2 := (List.getElem?_eq_some_iff.mp hj').1
        simp at hj2
        rw [List.getElem?_range hj2] at hj'
        cases hj'
        exact (hr5 j y hy).mono kt
    · subst es
      refine ⟨_, rfl, D, zs, _, _, _, rfl, e.trans ez, hz, ?_⟩
      rw [List.take_of_length_le (by rw [rowsL_len, hlen]; exact Nat.le_refl _)] at pz
      exact pz
  · subst es
    exact ⟨_, rfl, q _ _ _ e hp hpd⟩
end
end K95
set_option Elab.async false
set_option linter.all false
set_option maxRecDepth 100000
set_option maxHeartbeats 4000000
set_option autoImplicit false
namespace K95
open PySem PySem.Spec PyProof.Rows L2
section
variable {P : Program} {w : World} {K : PySem.W.Frag} {mg : Str → Option Value} {base : Heap} {tb : Tbs}
def spLeads (P : Program) (w : World) (tb : Tbs) (K : PySem.W.Frag) : Sp := fun vs H Q _ => ∃ (pa ta ra va : Addr) (A B : Tab) (n1 k1 n2 k2 : Nat) (nums : List Nat), vs = [.ref pa, .ref ta, .ref ra, .ref va] ∧ TabLL H pa (prodT A n1) ∧ TabLL H ta (prodT B n2) ∧ RowsLT H ra A ∧ Good A n1 k1 ∧ Good B n2 k2 ∧ H va = some (.tup (nvs nums)) ∧ nums.length = k1 ∧ (∀ x ∈ nums, x < n2) ∧
  ∀ H', Ext P w tb (CM K) H H' → Q (.bl (ledB A B nums)) H'
theorem sc_d_law_leads : FnScope ["_law_mine", "_law_table", "_law_rows_here", "_law_some", "_law_known", "_law_todo", "_law_place", "_law_letter", "_law_step", "_law_far", "_law_due"] ["_law_mine", "_law_table", "_law_rows_here", "_law_some"] d_law_leads.scope := ⟨rfl, rfl, rfl, by decide +kernel, rfl, by decide +kernel, by decide +kernel⟩
theorem go_law_leads (T : Txt K mg) : Go P w K mg base "_law_leads" ["_law_mine", "_law_table", "_law_rows_here", "_law_some"] 1 (spLeads P w tb K) := by
  obtain ⟨fd, F⟩ := T.fn 51
  refine ⟨_, fd, T.g_law_leads, F.kp, F.bindsN (fun _ _ _ _ _ _ us hl => match us, hl with | [_, _, _, _], _ => rfl), okN F sc_d_law_leads (fun vs H Q E h => by
    obtain ⟨_, _, _, _, _, _, _, _, _, _, _, rfl, _⟩ := h
    rfl) (fun cdv A outer s H vs Q E rm h => ?_)⟩
  obtain ⟨pa, ta, ra0, va, AA, BB, n1, k1, n2, k2, nums, rfl, hpa, hta, hra, G1, G2, hva, hnl, hnn, q⟩ := h
  have z1 := G1.form.n1
  have z2 := G2.form.n1
  have zk := G1.form.k2
  have zn := G2.form.n2
  obtain ⟨row0, r01, r02, _⟩ := G1.form.at (x := 0) z1
  obtain ⟨vs0, b0, s01, s02, s03⟩ := hra.row r01
  refine ⟨_, (pss_cons (ps_par (i := 4) (j := 5) (by rfl) sc_d_law_leads.nd rfl rfl (by decide) rfl rfl (pa_cons (pe_disp1 (hu_of rm) pe_int pe_int) (pa_cons (pe_lst (pa_cons pe_int pa_nil)) pa_nil)) (by rfl))
      (pss_cons (ps_while PassesOwn.never (pt_cmpR (op_neD rm.units) (pv 5) (pe_lst pa_nil) (nomark _)) (pss_cons (ps_set (i := 6) sc_d_law_leads.nd rfl (Or.inl rfl) (pe_bm0 PySem.F.plainAttrs_list PySem.F.slot_list_pop PySem.F.type_list_pop mt_pop (pv 5)))
      (pss_one (ps_for PassesOwn.never rfl (pi_enumA (by rfl) T.n_enumerate (pa_cons (pv 3) pa_nil)) (pg_tup (n := 2) rfl (pgs_cons (pg_name (i := 7) sc_d_law_leads.nd rfl (Or.inl rfl)) (pgs_cons (pg_name (i := 8) sc_d_law_leads.nd rfl (Or.inl rfl)) pgs_nil)))
      (pss_cons (ps_set (i := 9) sc_d_law_leads.nd rfl (Or.inl rfl) (pe_ix ix_list (pe_ix ix_list (pv 1) (pv 6) (fun _ _ => rfl)) (pv 8) (fun _ _ => rfl)))
      (pss_cons (ps_set (i := 10) sc_d_law_leads.nd rfl (Or.inl rfl) (pe_ix ix_list (pe_ix ix_list (pv 0) (pe_dget (hu_of rm) (pv 4) (pv 6) (fun _ _ => rfl)) (fun _ _ => rfl)) (pe_ix ix_tup (pe_ix ix_list (pv 2) pe_int (fun _ _ => rfl)) (pv 7) (fun _ _ => rfl)) (fun _ _ => rfl)))
      (pss_one (ps_if (pt_cmp (pc_dnotin (hu_of rm) (pv 9) (pv 4))) (pss_cons (ps_dput (hu_of rm) (pv 4) (pv 9) (pv 10) rfl)
      (pss_one (ps_expr (pe_bm PySem.F.plainAttrs_list PySem.F.slot_list_append PySem.F.type_list_append mt_append (pv 5) (pa_cons (pv 9) pa_nil))))) (pss_one (ps_if (pt_cmpR (op_ne) (pe_dget (hu_of rm) (pv 4) (pv 9) (fun _ _ => rfl)) (pv 10) (nomark _)) (pss_one (ps_ret pe_bl)) pss_nil))))))))))
      (pss_one (ps_ret pe_bl)))), ?_⟩
  refine fun ka hka => ⟨upd_same, elN.dic [(0, .int 0)], elN.one (x := 0) rfl, ?_⟩
  have e1 := (Ext.new (P := P) (w := w) (tb := tb) (C := CM K) (o := .dK []) hka).mut (o := elN.dic [(0, .int 0)]) (.of hka) upd_same rfl (fun _ _ _ _ _ => elN.ni _ _ _ _)
  refine ⟨(by show 1 ≤ sizeLine; decide), fun ra hra' => ⟨_, _, rfl, ?_⟩⟩
  have hkr : ka ≠ ra := fun z => by rw [← z, upd_same] at hra'; cases hra'
  have L0 : LdH P w tb (CM K) H (upd (upd (upd H ka (.dK [])) ka (elN.dic [(0, .int 0)])) ra (.lst [.int 0])) ka ra [(0, 0)] [0] :=
    ⟨e1.trans (.new hra'), by rw [upd_ne hkr, upd_same]; rfl, upd_same, .of hka, e1.nw hra'⟩
  refine ⟨fun m σ H' => ∃ kn rest y0 y5 y6 y7 y8 y9, σ = [some (.ref pa), some (.ref ta), some (.ref ra0), some (.ref va), some (.ref ka), some (.ref ra), y5, y6, y7, y8, y9] ∧ LdH P w tb (CM K) H H' ka ra kn rest ∧ LedI nums.length (nxM BB nums) (step AA) kn rest y0 nums.length ∧ (∀ p ∈ kn, p.1 < n2 ∧ p.2 < n1) ∧ m = 2 * (n2 - kn.length) + rest.length,
    ⟨_, _, _, 0, _, _, _, _, _, rfl, L0, LedI.start _ _ _, fun p hp => by rw [List.mem_singleton.mp hp]; exact ⟨z2, z1⟩, rfl⟩, fun m σ H' hW => ?_⟩
  obtain ⟨kn, rest, y0, y5, y6, y7, y8, y9, rfl, L, I, hb, rfl⟩ := hW
  have hknl : kn.length ≤ n2 := by
    have := nodup_lt I.nd fun x hx => by
      obtain ⟨p, hp, rfl⟩ := List.mem_map.mp hx
      exact (hb p hp).1
    simpa using this
  refine ⟨_, rfl, (by show 0 ≤ sizeLine; decide), fun e he => ?_⟩
  have ee := Ext.new (P := P) (w := w) (tb := tb) (C := CM K) (o := .lst []) he
  have L1 := L.ext ee
  refine ⟨dL rest, dL [], dp_lst (SqL.of L1.r), .lst (SqL.of upd_same) .nil, dL_shaped _, dL_shaped _, _, rfl, ?_⟩
  rw [dL_eqv]
  refine ite2 (fun hne => ?_) fun hemp => ?_
  · have hne' : rest ≠ [] := by simpa using hne
    obtain ⟨r', y, rfl⟩ : ∃ r' y, rest = r' ++ [y] := ⟨rest.dropLast, rest.getLast hne', (List.dropLast_concat_getLast hne').symm⟩
    refine ⟨fun σ' H'' => ∃ m', m' < 2 * (n2 - kn.length) + (r' ++ [y]).length ∧ (∃ kn rest y0 y5 y6 y7 y8 y9, σ' = [some (.ref pa), some (.ref ta), some (.ref ra0), some (.ref va), some (.ref ka), some (.ref ra), y5, y6, y7, y8, y9] ∧ LdH P w tb (CM K) H H'' ka ra kn rest ∧ LedI nums.length (nxM BB nums) (step AA) kn rest y0 nums.length ∧ (∀ p ∈ kn, p.1 < n2 ∧ p.2 < n1) ∧ m' = 2 * (n2 - kn.length) + rest.length), fun σ' H'' h => h, ?_⟩
    obtain ⟨I1, hyr, a0, ha0⟩ := I.pop
    refine ⟨_, rfl, .inl ⟨rfl, _, SqL.of L1.r⟩, ra, _, nv y, rfl, rfl, L1.r, nvs_last _ _, ?_⟩
    rw [nvs_dropLast]
    have L2 := L1.pop
    have hva2 := L2.e.tup hva
    refine ⟨_, rfl, en_for (.inl hva2) (fun i σ H' => ∃ kn' rest' y6 y7 y8 y9, σ = [some (.ref pa), some (.ref ta), some (.ref ra0), some (.ref va), some (.ref ka), some (.ref ra), some (nv y), y6, y7, y8, y9] ∧ LdH P w tb (CM K) H H' ka ra kn' rest' ∧ LedI nums.length (nxM BB nums) (step AA) kn' rest' y i ∧ y ∉ rest' ∧ (∃ a, (y, a) ∈ kn') ∧ (∀ p ∈ kn', p.1 < n2 ∧ p.2 < n1) ∧ 2 * (n2 - kn'.length) + rest'.length ≤ 2 * (n2 - kn.length) + r'.length)
      ⟨kn, r', y6, y7, y8, y9, rfl, L2, I1, hyr, ⟨a0, ha0⟩, hb, Nat.le_refl _⟩ (fun i σ H' ⟨_, _, _, _, _, _, _, L3, _⟩ => by rw [L3.e.tup hva, hva2]) (fun c σ H' T2 x hx ⟨kn', rest', y6, y7, y8, y9, es, L3, I3, hy3, ⟨a, ha⟩, hb3, hm3⟩ hT => ?_) fun σ H' ⟨kn', rest', y6, y7, y8, y9, es, L3, I3, hy3, ⟨a, ha⟩, hb3, hm3⟩ => ?_⟩
    · subst es
      rw [nvs_get] at hx
      obtain ⟨st, hst, rfl⟩ := Option.map_eq_some_iff.mp hx
      have hck : c < nums.length := (List.getElem?_eq_some_iff.mp hst).1
      have hstn := hnn st (List.mem_of_getElem? hst)
      obtain ⟨hyn, han⟩ := hb3 _ ha
      have eT := Ext.new (P := P) (w := w) (tb := tb) (C := CM K) (o := .tup [nv c, nv st]) hT
      have L5 := L3.ext eT
      have enx : nxM BB nums y c = mul BB y st := by
        unfold nxM
        rw [List.getD_eq_getElem?_getD, hst] <;> rfl
      obtain ⟨tr, t1, t2⟩ := prodT_get (T := BB) hyn hstn
      obtain ⟨tvs, tb0, t3, t4, t5⟩ := (hta.ext L5.e).row t1
      refine ⟨_, rfl, _, rfl, _, _, _, _, rfl, rfl, SqL.of t3, atI_nat t4, _, rfl, _, _, _, _, rfl, rfl, SqL.of t5, atI_nat (v := nv (mul BB y st)) (by rw [nvs_get, t2]; rfl), ?_⟩
      have hget : DGet (upd H' T2 (.tup [nv c, nv st])) ka (nv y) (some (nv a)) := by
        have := elN.get (x := y) L5.k rfl
        rw [knV_some I3.nd ha] at this
        exact this
      have hls : step AA 0 c < n1 := G1.form.step_lt z1 (by omega)
      have esm : mul AA a (step AA 0 c) = step AA a c := (G1.step_mul han (by omega)).symm
      obtain ⟨pr, p1, p2⟩ := prodT_get (T := AA) han hls
      obtain ⟨pvs, pb0, p3, p4, p5⟩ := (hpa.ext L5.e).row p1
      obtain ⟨row, g1, g2⟩ := G1.form.get (x := 0) z1 (c := c) (by omega)
      rw [r01] at g1
      cases g1
      refine ⟨_, rfl, _, rfl, _, rfl, ka, _, rfl, hget, _, _, _, _, rfl, rfl, SqL.of p3, atI_nat p4, _, rfl, _, _, _, _, rfl, rfl, SqL.of (L5.e.lst s01), atI_nat (j := 0) s02, _, rfl, _, _, _, _, rfl, rfl, SqT.of (L5.e.tup s03), atI_nat (v := nv (step AA 0 c)) (by rw [nvs_get, g2]; rfl), _, _, _, _, rfl, rfl, SqL.of p5, atI_nat (v := nv (step AA a c)) (by rw [nvs_get, p2, esm]; rfl), ?_⟩
      have hln : mul BB y st < n2 := G2.mul_lt hyn hstn
      have himg : step AA a c < n1 := G1.form.step_lt han (by omega)
      have hget2 := elN.get (x := mul BB y st) L5.k rfl
      refine ⟨_, rfl, _, rfl, ka, _, rfl, hget2, _, rfl, ?_⟩
      by_cases hold : ∃ b, (mul BB y st, b) ∈ kn'
      · obtain ⟨b', hb'⟩ := hold
        have hv2 := knV_some I3.nd hb'
        refine iteF (by rw [hv2]; rfl) ?_
        rw [hv2] at hget2
        refine ⟨_, rfl, _, rfl, ka, _, rfl, hget2, _, rfl, rfl, _, rfl, ite2 (fun hdiff => ?_) fun hsame => ?_⟩
        · have hne2 : b' ≠ step AA a c := fun z => by
            rw [z] at hdiff
            simp at hdiff
          have hnl2 : ¬ LedRow AA BB nums := I3.bad hck ha (by rw [enx]; exact hb') hne2
          have := q _ L5.e
          rw [ledB_false hnl2] at this
          exact this
        · have heq : b' = step AA a c := by
            simp at hsame
            have := V.int.inj hsame
            omega
          exact ⟨kn', rest', _, _, _, _, rfl, L5, I3.old hy3 ha (by rw [enx, ← heq]; exact hb'), hy3, ⟨a, ha⟩, hb3, hm3⟩
      · have hno : ∀ b, (mul BB y st, b) ∉ kn' := fun b hb => hold ⟨b, hb⟩
        have hv2 := knV_none hno
        refine iteT (by rw [hv2]; rfl) ?_
        have hk3 : kn'.length ≤ n2 := by
          have := nodup_lt I3.nd fun x hx => by
            obtain ⟨p, hp, rfl⟩ := List.mem_map.mp hx
            exact (hb3 p hp).1
          simpa using this
        obtain ⟨I4, hy4⟩ := I3.new hy3 hck ha (by rw [enx]; exact hno)
        rw [enx] at I4 hy4
        obtain ⟨hr5, L6⟩ := L5.add (x := mul BB y st) (a := step AA a c)
        have hk4 : (kn' ++ [(mul BB y st, step AA a c)]).length ≤ n2 := by
          have := nodup_lt I4.nd fun x hx => by
            obtain ⟨p, hp, rfl⟩ := List.mem_map.mp hx
            rcases List.mem_append.mp hp with h | h
            · exact (hb3 p h).1
            · rw [List.mem_singleton.mp h]
              exact hln
          simpa using this
        have hrl : rest'.length ≤ n2 := by
          have := nodup_len I3.rn (m := kn'.map (·.1)) fun x hx => by
            obtain ⟨b, hb⟩ := I3.rs x hx
            exact List.mem_map.mpr ⟨_, hb, rfl⟩
          simp at this
          omega
        refine ⟨_, rfl, _, rfl, _, rfl, ka, _, rfl, elN.put (x := mul BB y st) (y := nv (step AA a c)) L5.k rfl hv2 (line_of (by unfold knV; rw [List.length_map]; omega)), ?_⟩
        refine ⟨_, rfl, .inl ⟨rfl, _, SqL.of hr5⟩, _, rfl, ra, _, _, rfl, rfl, hr5, line_of (by rw [nvs_len]; omega), ?_⟩
        refine ⟨_, _, _, _, _, _, rfl, L6, I4, hy4, ⟨a, List.mem_append_left _ ha⟩, fun p hp => ?_, ?_⟩
        · rcases List.mem_append.mp hp with h | h
          · exact hb3 p h
          · rw [List.mem_singleton.mp h]
            exact ⟨hln, himg⟩
        · simp only [List.length_append, List.length_singleton] at hk4 ⊢
          omega
    · subst es
      rw [nvs_len] at I3
      exact ⟨_, by simp; omega, kn', rest', y, _, _, _, _, _, rfl, L3, I3, hb3, rfl⟩
  · have hemp' : rest = [] := by simpa using hemp
    subst hemp'
    have := q _ L1.e
    rw [ledB_true (show LedRow AA BB nums from I.done)] at this
    exact this
end
end K95
set_option Elab.async false
set_option linter.all false
set_option maxRecDepth 100000
set_option maxHeartbeats 4000000
set_option autoImplicit false
namespace K95
open PySem PySem.Spec PyProof.Rows L2
/-- a word for each number -/
structure WordsOk (T : Tab) (n k : Nat) (ws : List (List Nat)) : Prop where
  len : ws.length = n
  ok : ∀ (i : Nat) (p : List Nat), ws[i]? = some p → val T p = i ∧ Letters k p ∧ p.length ≤ 2000
/-- a list of numbers that is not the one at fa -/
def IntLstN (fa : Addr) (H : Hp) (v : V) (l : List Nat) : Prop := ∃ b, v = .ref b ∧ b ≠ fa ∧ H b = some (.lst (nvs l))
theorem IntLstN.ext {P : Program} {w : World} {tb : Tbs} {C fa : Addr} {H H' : Hp} (e : Ext P w tb C H H') {v : V} {l : List Nat} (h : IntLstN fa H v l) : IntLstN fa H' v l := by
  obtain ⟨a, r, n, h⟩ := h
  exact ⟨a, r, n, e.lst h⟩
theorem IntLstN.upd {fa : Addr} {H : Hp} {o : HO} {v : V} {l : List Nat} (h : IntLstN fa H v l) : IntLstN fa (upd H fa o) v l := by
  obtain ⟨a, r, n, h⟩ := h
  exact ⟨a, r, n, by rw [upd_ne n]; exact h⟩
theorem IntLstN.il {fa : Addr} {H : Hp} {v : V} {l : List Nat} (h : IntLstN fa H v l) : IntLst H v l := by
  obtain ⟨a, r, n, h⟩ := h
  exact ⟨a, r, h⟩
theorem take_snoc {α : Type} {l : List α} {i : Nat} {x : α} (h : l[i]? = some x) : l.take (i + 1) = l.take i ++ [x] := by
  rw [List.take_succ, h] <;> rfl
theorem letter_get {p : List Nat} {i c : Nat} (h : (wordStr p).cps[i]? = some c) : ∃ o, p[i]? = some o ∧ c = 97 + o := by
  unfold wordStr letterAt at h
  simp at h
  obtain ⟨o, h1, h2⟩ := h
  exact ⟨o, h1, h2.symm⟩
section
variable {P : Program} {w : World} {K : PySem.W.Frag} {mg : Str → Option Value} {base : Heap} {tb : Tbs}
def spProducts (P : Program) (w : World) (tb : Tbs) (K : PySem.W.Frag) : Sp := fun vs H Q _ => ∃ (ra wa : Addr) (T : Tab) (n k : Nat) (ws : List (List Nat)), vs = [.ref ra, .ref wa] ∧ RowsLT H ra T ∧ H wa = some (.lst (ws.map fun p => V.str (wordStr p))) ∧ Good T n k ∧ WordsOk T n k ws ∧
  ∀ H' p, Ext P w tb (CM K) H H' → TabLL H' p (prodT T n) → Q (.ref p) H'
theorem sc_d_law_products : FnScope ["_law_rows_here", "_law_words", "_law_found", "_law_number", "_law_row", "_law_word", "_law_place", "_law_letter"] ["_law_rows_here", "_law_words"] d_law_products.scope := ⟨rfl, rfl, rfl, by decide +kernel, rfl, by decide +kernel, by decide +kernel⟩
theorem go_law_products (T : Txt K mg) : Go P w K mg base "_law_products" ["_law_rows_here", "_law_words"] 1 (spProducts P w tb K) := by
  obtain ⟨fd, F⟩ := T.fn 49
  refine ⟨_, fd, T.g_law_products, F.kp, F.bindsN (fun _ _ _ _ _ _ us hl => match us, hl with | [_, _], _ => rfl), okN F sc_d_law_products (fun vs H Q E h => by
    obtain ⟨_, _, _, _, _, _, rfl, _⟩ := h
    rfl) (fun cdv A outer s H vs Q E rm h => ?_)⟩
  obtain ⟨ra, wa, T', n, k, ws, rfl, hra, hwa, hG, hW, q⟩ := h
  have z1 := hG.form.n1
  have zn := hG.form.n2
  have zk := hG.form.k2
  obtain ⟨rvs, hrv, hrp⟩ := id hra
  have hrl : rvs.length = n := by rw [paired_len hrp, hG.form.len]
  refine ⟨_, (pss_cons (ps_set (i := 2) sc_d_law_products.nd rfl (Or.inl rfl) (pe_lst pa_nil))
      (pss_cons (ps_for PassesOwn.never rfl (pi_range1 rfl T.n_range (pa_cons (pe_callB call_len_seq (by rfl) T.n_len boot_len (pa_cons (pv 0) pa_nil)) pa_nil)) (pg_name (i := 3) sc_d_law_products.nd rfl (Or.inl rfl))
      (pss_cons (ps_set (i := 4) sc_d_law_products.nd rfl (Or.inl rfl) (pe_lst pa_nil))
      (pss_cons (ps_for PassesOwn.never rfl (pi_list (pv 1)) (pg_name (i := 5) sc_d_law_products.nd rfl (Or.inl rfl))
      (pss_cons (ps_set (i := 6) sc_d_law_products.nd rfl (Or.inl rfl) (pv 3))
      (pss_cons (ps_for PassesOwn.never rfl (pi_str (pv 5)) (pg_name (i := 7) sc_d_law_products.nd rfl (Or.inl rfl))
      (pss_one (ps_set (i := 6) sc_d_law_products.nd rfl (Or.inl rfl) (pe_ix ix_tup (pe_ix ix_list (pv 0) (pv 6) (fun _ _ => rfl)) (pe_bm PySem.F.plainAttrs_str PySem.F.slot_str_index PySem.F.type_str_index mt_sindex pe_str (pa_cons (pv 7) pa_nil)) (fun _ _ => rfl)))))
      (pss_one (ps_expr (pe_bm PySem.F.plainAttrs_list PySem.F.slot_list_append PySem.F.type_list_append mt_append (pv 4) (pa_cons (pv 6) pa_nil)))))))
      (pss_one (ps_expr (pe_bm PySem.F.plainAttrs_list PySem.F.slot_list_append PySem.F.type_list_append mt_append (pv 2) (pa_cons (pv 4) pa_nil)))))))
      (pss_one (ps_ret (pv 2))))), ?_⟩
  refine ⟨(by show 0 ≤ sizeLine; decide), fun fa hfa => ?_⟩
  have e1 := Ext.new (P := P) (w := w) (tb := tb) (C := CM K) (o := .lst []) hfa
  have nfa : Nw H fa := .of hfa
  refine ⟨_, rfl, ra, rvs, rfl, .inl (SqL.of (e1.lst hrv)), (rvs.length : Int), rfl, by omega, by omega, for_it walk_range (fun i σ H' => ∃ vs' y3 y4 y5 y6 y7, σ = [some (.ref ra), some (.ref wa), some (.ref fa), y3, y4, y5, y6, y7] ∧ Ext P w tb (CM K) H H' ∧ H' fa = some (.lst vs') ∧ Paired (IntLstN fa H') vs' ((prodT T' n).take i)) ⟨[], none, none, none, none, none, rfl, e1, upd_same, .nil⟩ (fun _ _ _ _ _ => trivial)
    (fun i x σ H' H6 hi ⟨vs', y3, y4, y5, y6, y7, es, e, hp, hpd⟩ hy => ?_) fun σ H' ⟨vs', y3, y4, y5, y6, y7, es, e, hp, hpd⟩ => ?_⟩
  · obtain ⟨rfl, rfl⟩ := hy
    subst es
    have hi' : i < n := by omega
    refine ⟨Nat.zero_le _, fun D hD => ?_⟩
    have eD := Ext.new (P := P) (w := w) (tb := tb) (C := CM K) (o := .lst []) hD
    have nD : Nw H6 D := .of hD
    have hDf : D ≠ fa := fun z => by rw [z, hp] at hD; cases hD
    have hwa6 := e.lst hwa
    have ei : (V.int (0 + (i : Int))) = nv i := by show _ = V.int (i : Int); rw [Int.zero_add]
    refine ⟨_, rfl, wa, rfl, ⟨_, SqL.of (eD.lst hwa6)⟩, for_it (walk_list (xs := ws.map fun p => V.str (wordStr p))) (fun j σ H' => ∃ y5 y6 y7, σ = [some (.ref ra), some (.ref wa), some (.ref fa), some (nv i), some (.ref D), y5, y6, y7] ∧ Ext P w tb (CM K) H6 H' ∧ H' D = some (.lst (nvs ((List.range j).map fun y => mul T' i y)))) ⟨y5, y6, y7, by rw [← ei]; rfl, eD, upd_same⟩ (fun j σ H' _ ⟨_, _, _, _, ej, _⟩ => SqL.of (ej.lst hwa6))
      (fun j x σ H' H7 hj ⟨y5, y6, y7, es, ej, hD7⟩ hy => ?_) fun σ H' ⟨y5, y6, y7, es, ej, hD7⟩ => ?_⟩
    · obtain ⟨rfl, hx⟩ := hy
      subst es
      rw [List.getElem?_map] at hx
      obtain ⟨p, hpj, rfl⟩ := Option.map_eq_some_iff.mp hx
      obtain ⟨o1, o2, o3⟩ := hW.ok j p hpj
      have hjn : j < n := by rw [← hW.len]; exact (List.getElem?_eq_some_iff.mp hpj).1
      refine ⟨_, rfl, ?_⟩
      refine ⟨_, rfl, wordStr p, rfl, for_it walk_str (fun c σ H' => ∃ y7, σ = [some (.ref ra), some (.ref wa), some (.ref fa), some (nv i), some (.ref D), some (.str (wordStr p)), some (nv (run T' i (p.take c))), y7] ∧ H' = H7) ⟨y7, rfl, rfl⟩ (fun _ _ _ _ _ => trivial)
        (fun c x σ H' H8 hc ⟨y7, es, eh⟩ hy => ?_) fun σ H' ⟨y7, es, eh⟩ => ?_⟩
      · obtain ⟨rfl, ch, hch, rfl⟩ := hy
        subst es
        subst eh
        obtain ⟨o, ho, rfl⟩ := letter_get hch
        have hok : o < k := o2 o (List.mem_of_getElem? ho)
        have hpl : run T' i (p.take c) < n := hG.form.run_lt hi' fun d hd => o2 d (List.mem_of_mem_take hd)
        obtain ⟨row, g1, g2⟩ := hG.form.get hpl hok
        obtain ⟨rvs', b, g3, g4, g5⟩ := (hra.ext (e.trans ej)).row g1
        refine ⟨_, rfl, _, rfl, _, _, _, _, rfl, rfl, SqL.of g3, atI_nat g4, rfl, _, rfl, _, _, o, [], rfl, rfl, occ_letter (by omega), _, _, _, _, rfl, rfl, SqT.of g5, atI_nat (v := nv (step T' (run T' i (p.take c)) o)) (by rw [nvs_get, g2]; rfl), ?_⟩
        have er : step T' (run T' i (p.take c)) o = run T' i (p.take (c + 1)) := by rw [take_snoc ho, run_snoc]
        rw [er]
        exact ⟨_, rfl, rfl⟩
      · subst es
        subst eh
        have hpe : p.take (wordStr p).cps.size = p := List.take_of_length_le (by have := wordStr_len p; exact Nat.le_of_eq this.symm)
        rw [hpe, hG.run_eq hi' o2, o1]
        refine ⟨_, rfl, .inl ⟨rfl, _, SqL.of hD7⟩, _, rfl, D, _, _, rfl, rfl, hD7, line_of (by rw [nvs_len]; simp; omega), ?_⟩
        refine ⟨_, _, _, rfl, ej.mut nD hD7 rfl, ?_⟩
        rw [upd_same, nvs_snoc, List.range_succ, List.map_append]
        rfl
    · subst es
      rw [List.length_map, hW.len] at hD7
      have hp7 := ej.lst hp
      have hvl : vs'.length ≤ n := by rw [paired_len hpd, List.length_take]; unfold prodT; simp; omega
      refine ⟨_, rfl, .inl ⟨rfl, _, SqL.of hp7⟩, _, rfl, fa, _, _, rfl, rfl, hp7, line_of (by omega), ?_⟩
      have gi : (prodT T' n)[i]? = some ((List.range n).map fun y => mul T' i y) := by
        unfold prodT
        rw [List.getElem?_map, List.getElem?_range hi'] <;> rfl
      refine ⟨_, _, _, _, _, _, rfl, (e.trans ej).mut nfa hp7 rfl, upd_same, ?_⟩
      rw [take_snoc gi]
      exact paired_app (Paired.mapP hpd fun _ _ z => (z.ext ej).upd) (.cons ⟨D, rfl, hDf, by rw [upd_ne hDf]; exact hD7⟩ .nil)
  · subst es
    refine ⟨_, rfl, q _ _ e ⟨vs', hp, ?_⟩⟩
    rw [List.take_of_length_le (by unfold prodT; simp; omega)] at hpd
    exact Paired.mapP hpd fun _ _ z => z.il
end
end K95
set_option Elab.async false
set_option linter.all false
set_option maxRecDepth 100000
set_option maxHeartbeats 4000000
set_option autoImplicit false
namespace K95
open PySem PySem.Spec PyProof.Rows L2
def ListedR (H : Hp) (v : V) (m k : Nat) : Prop := (v = .non ∧ 41 ≤ m ^ m) ∨ ∃ (p r wa : Addr) (T : Tab) (n : Nat) (ws : List (List Nat)), v = .ref p ∧ H p = some (.tup [.ref r, .ref wa]) ∧ RowsLT H r T ∧ H wa = some (.lst (ws.map fun p => V.str (wordStr p))) ∧ Good T n k ∧ n ≤ m ^ m ∧ n ≤ 40 ∧ WordsOk T n k ws
/-- the listing's three lists -/
structure LsI (P : Program) (w : World) (tb : Tbs) (C : Addr) (H0 H : Hp) (ka ra wa : Addr) (found : List (List Nat)) (rows : Tab) (ws : List (List Nat)) (kv rv : List V) : Prop where
  e : Ext P w tb C H0 H
  k : H ka = some (.lst kv)
  kp : Paired (IntTup H) kv found
  r : H ra = some (.lst rv)
  rp : Paired (IntTup H) rv rows
  w : H wa = some (.lst (ws.map fun p => V.str (wordStr p)))
  nk : Nw H0 ka
  nr : Nw H0 ra
  nw : Nw H0 wa
  d1 : ka ≠ ra
  d2 : ka ≠ wa
  d3 : ra ≠ wa
theorem LsI.ext {P : Program} {w : World} {tb : Tbs} {C : Addr} {H0 H H' : Hp} {ka ra wa : Addr} {found : List (List Nat)} {rows : Tab} {ws : List (List Nat)} {kv rv : List V} (h : LsI P w tb C H0 H ka ra wa found rows ws kv rv) (e : Ext P w tb C H H') : LsI P w tb C H0 H' ka ra wa found rows ws kv rv :=
  ⟨h.e.trans e, e.lst h.k, Paired.mapP h.kp fun _ _ z => z.ext e, e.lst h.r, Paired.mapP h.rp fun _ _ z => z.ext e, e.lst h.w, h.nk, h.nr, h.nw, h.d1, h.d2, h.d3⟩
theorem LsI.addK {P : Program} {w : World} {tb : Tbs} {C : Addr} {H0 H : Hp} {ka ra wa : Addr} {found : List (List Nat)} {rows : Tab} {ws : List (List Nat)} {kv rv : List V} {v : V} {x : List Nat} {p : List Nat} (h : LsI P w tb C H0 H ka ra wa found rows ws kv rv) (hx : IntTup H v x) :
    (upd H ka (.lst (kv ++ [v]))) wa = some (.lst (ws.map fun p => V.str (wordStr p))) ∧ LsI P w tb C H0 (upd (upd H ka (.lst (kv ++ [v]))) wa (.lst ((ws.map fun p => V.str (wordStr p)) ++ [.str (wordStr p)]))) ka ra wa (found ++ [x]) rows (ws ++ [p]) (kv ++ [v]) rv := by
  have h1 : (upd H ka (.lst (kv ++ [v]))) wa = some (.lst (ws.map fun p => V.str (wordStr p))) := by rw [upd_ne h.d2.symm]; exact h.w
  have kt := tup_upd (o := .lst (kv ++ [v])) h.k rfl
  have kt2 := tup_upd (o := .lst ((ws.map fun p => V.str (wordStr p)) ++ [.str (wordStr p)])) h1 rfl
  have ktt := fun a xs (z : H a = some (.tup xs)) => kt2 a xs (kt a xs z)
  refine ⟨h1, (h.e.mut h.nk h.k rfl).mut h.nw h1 rfl, ?_, paired_app (Paired.mapP h.kp fun _ _ z => z.mono ktt) (.cons (hx.mono ktt) .nil), ?_, Paired.mapP h.rp fun _ _ z => z.mono ktt, ?_, h.nk, h.nr, h.nw, h.d1, h.d2, h.d3⟩
  · rw [upd_ne h.d2, upd_same]
  · rw [upd_ne h.d3, upd_ne h.d1.symm]
    exact h.r
  · rw [upd_same, List.map_append] <;> rfl
theorem LsI.addR {P : Program} {w : World} {tb : Tbs} {C : Addr} {H0 H : Hp} {ka ra wa : Addr} {found : List (List Nat)} {rows : Tab} {ws : List (List Nat)} {kv rv : List V} {v : V} {x : List Nat} (h : LsI P w tb C H0 H ka ra wa found rows ws kv rv) (hx : IntTup H v x) :
    LsI P w tb C H0 (upd H ra (.lst (rv ++ [v]))) ka ra wa found (rows ++ [x]) ws kv (rv ++ [v]) := by
  have kt := tup_upd (o := .lst (rv ++ [v])) h.r rfl
  refine ⟨h.e.mut h.nr h.r rfl, by rw [upd_ne h.d1]; exact h.k, Paired.mapP h.kp fun _ _ z => z.mono kt, upd_same, paired_app (Paired.mapP h.rp fun _ _ z => z.mono kt) (.cons (hx.mono kt) .nil), by rw [upd_ne h.d3.symm]; exact h.w, h.nk, h.nr, h.nw, h.d1, h.d2, h.d3⟩
theorem LsI.other {P : Program} {w : World} {tb : Tbs} {C : Addr} {H0 H : Hp} {ka ra wa D : Addr} {found : List (List Nat)} {rows : Tab} {ws : List (List Nat)} {kv rv zs zs' : List V} (h : LsI P w tb C H0 H ka ra wa found rows ws kv rv) (nD : Nw H0 D) (hD : H D = some (.lst zs)) (d : ka ≠ D ∧ ra ≠ D ∧ wa ≠ D) :
    LsI P w tb C H0 (upd H D (.lst zs')) ka ra wa found rows ws kv rv := by
  have kt := tup_upd (o := .lst zs') hD rfl
  exact ⟨h.e.mut nD hD rfl, by rw [upd_ne d.1]; exact h.k, Paired.mapP h.kp fun _ _ z => z.mono kt, by rw [upd_ne d.2.1]; exact h.r, Paired.mapP h.rp fun _ _ z => z.mono kt, by rw [upd_ne d.2.2]; exact h.w, h.nk, h.nr, h.nw, h.d1, h.d2, h.d3⟩
theorem grow_app {α : Type} [DecidableEq α] (f a b : List α) : grow f (a ++ b) = grow (grow f a) b := by
  unfold grow
  rw [List.foldl_append]
theorem grow_snoc {α : Type} [DecidableEq α] (f a : List α) (y : α) : grow f (a ++ [y]) = if y ∈ grow f a then grow f a else grow f a ++ [y] := by
  rw [grow_app]
  rfl
theorem grow_idx {α : Type} [DecidableEq α] {f ys : List α} {c : Nat} {y : α} (h : ys[c]? = some y) : y ∈ grow f (ys.take (c + 1)) ∧ (grow f (ys.take (c + 1))).idxOf y = (grow f ys).idxOf y := by
  have hm : y ∈ grow f (ys.take (c + 1)) := (grow_mem _ _ _).mpr (.inr (by rw [take_snoc h]; simp))
  refine ⟨hm, ?_⟩
  have e : grow f ys = grow (grow f (ys.take (c + 1))) (ys.drop (c + 1)) := by rw [← grow_app, List.take_append_drop]
  obtain ⟨t, ht⟩ := grow_pre (ys.drop (c + 1)) (grow f (ys.take (c + 1)))
  rw [e, ht, List.idxOf_append, if_pos hm]
theorem Bfs.small {α : Type} [DecidableEq α] {nx : α → Nat → α} {k : Nat} {x0 : α} {found : List α} {rows : Tab} (B : Bfs nx k x0 found rows) (hk : k ≤ 6) : found.length ≤ 1 + 6 * rows.length := by
  have key : ∀ (r : List Nat) (met m : Nat), scanRow met r = some m → m ≤ met + r.length := by
    intro r
    induction r with
    | nil =>
      intro met m h
      have := Option.some.inj h
      simp
      omega
    | cons o r ih =>
      intro met m h
      obtain ⟨_, h2⟩ := scanRow_step h
      have := ih _ _ h2
      simp
      split at this <;> omega
  have key2 : ∀ (rs : Tab) (i met m : Nat), (∀ r ∈ rs, r.length ≤ 6) → scan i met rs = some m → m ≤ met + 6 * rs.length := by
    intro rs
    induction rs with
    | nil =>
      intro i met m _ h
      have := Option.some.inj h
      simp
      omega
    | cons r rs ih =>
      intro i met m hr h
      obtain ⟨_, m1, h1, h2⟩ := scan_step h
      have a1 := key _ _ _ h1
      have a2 := ih _ _ _ (fun r h => hr r (List.mem_cons_of_mem _ h)) h2
      have a3 := hr r List.mem_cons_self
      simp
      omega
  refine key2 rows 0 1 _ (fun r hr => ?_) B.sc
  obtain ⟨i, hi⟩ := List.mem_iff_getElem?.mp hr
  have hil := (List.getElem?_eq_some_iff.mp hi).1
  have hle := B.le
  have := (B.row i r _ hi (List.getElem?_eq_getElem (by omega))).1
  omega
section
variable {P : Program} {w : World} {K : PySem.W.Frag} {mg : Str → Option Value} {base : Heap} {tb : Tbs}
def spListed (P : Program) (w : World) (tb : Tbs) (K : PySem.W.Frag) : Sp := fun vs H Q _ => ∃ (ma : Addr) (Ms : List (List Nat)) (m : Nat), vs = [.ref ma] ∧ TabLL H ma Ms ∧ (∀ M ∈ Ms, M.length = m ∧ ∀ x ∈ M, x < m) ∧ 1 ≤ Ms.length ∧ Ms.length ≤ 6 ∧ m ≤ 100 ∧
  ∀ H' v, Ext P w tb (CM K) H H' → ListedR H' v m Ms.length → Q v H'
theorem sc_d_law_listed : FnScope ["_law_maps", "_law_known", "_law_rows_here", "_law_words", "_law_turn", "_law_row", "_law_letter", "_law_step", "_law_later", "_law_point"] ["_law_maps"] d_law_listed.scope := ⟨rfl, rfl, rfl, by decide +kernel, rfl, by decide +kernel, by decide +kernel⟩
theorem go_law_listed (T : Txt K mg) : Go P w K mg base "_law_listed" ["_law_maps"] 1 (spListed P w tb K) := by
  obtain ⟨fd, F⟩ := T.fn 47
  refine ⟨_, fd, T.g_law_listed, F.kp, F.bindsN (fun _ _ _ _ _ _ us hl => match us, hl with | [_], _ => rfl), okN F sc_d_law_listed (fun vs H Q E h => by
    obtain ⟨_, _, _, rfl, _⟩ := h
    rfl) (fun cdv A outer s H vs Q E rm h => ?_)⟩
  obtain ⟨ma, Ms, m, rfl, hma, hMs, k1, k6, hm, q⟩ := h
  refine ⟨_, (pss_cons (ps_par3 (i := 1) (j := 2) (l := 3) (by rfl) sc_d_law_listed.nd rfl rfl rfl (by decide) (by decide) (by decide) rfl rfl rfl (pa_cons (pe_lst (pa_cons (pe_tupRg rfl rfl T.n_tuple (prg_1 rfl T.n_range (pe_callB call_len_seq (by rfl) T.n_len boot_len (pa_cons (pe_ix ix_list (pv 0) pe_int (fun _ _ => rfl)) pa_nil)))) pa_nil)) (pa_cons (pe_lst pa_nil) (pa_cons (pe_lst (pa_cons pe_str pa_nil)) pa_nil))) (by rfl))
      (pss_cons (ps_for PassesOwn.never rfl (pi_range1 rfl T.n_range (pa_cons pe_int pa_nil)) (pg_name (i := 4) sc_d_law_listed.nd rfl (Or.inl rfl))
      (pss_cons (ps_if (pt_cmpR (op_eq) (pv 4) (pe_callB call_len_seq (by rfl) T.n_len boot_len (pa_cons (pv 1) pa_nil)) (nomark _)) (pss_one (ps_ret (pe_tup (pa_cons (pv 2) (pa_cons (pv 3) pa_nil))))) pss_nil)
      (pss_cons (ps_set (i := 5) sc_d_law_listed.nd rfl (Or.inl rfl) (pe_lst pa_nil))
      (pss_cons (ps_for PassesOwn.never rfl (pi_enumA (by rfl) T.n_enumerate (pa_cons (pv 0) pa_nil)) (pg_tup (n := 2) rfl (pgs_cons (pg_name (i := 6) sc_d_law_listed.nd rfl (Or.inl rfl)) (pgs_cons (pg_name (i := 7) sc_d_law_listed.nd rfl (Or.inr rfl)) pgs_nil)))
      (pss_cons (ps_set (i := 8) sc_d_law_listed.nd rfl (Or.inl rfl) (pe_callTy call_tuple_of (by rfl) T.n_tuple boot_tuple (pa_cons (pe_lc (own := [("_law_point", 9)]) (g := gName 9) rfl sc_d_law_listed.nd (pi_tup (pe_ix ix_list (pv 1) (pv 4) (fun _ _ => rfl))) (blkOk_by (N := ["_law_maps", "_law_known", "_law_rows_here", "_law_words", "_law_turn", "_law_row", "_law_letter", "_law_step", "_law_later", "_law_point"]) (sc := d_law_listed.scope) (by decide +kernel)) (fun _ _ _ _ _ => (pg_name (i := 9) sc_d_law_listed.nd rfl (Or.inl rfl))) (fun _ _ _ _ _ => pts_nil) (fun _ _ _ _ _ => pe_c (pe_ix ix_list (pv 7) (pv 9) (fun _ _ => rfl)))) pa_nil)))
      (C8.pss_cut (ps_if (pt_cmpR (op_notInD (hu65_of rm)) (pv 8) (pv 1) (by first | rfl | with_unfolding_all rfl)) (pss_cons (ps_expr (pe_bm PySem.F.plainAttrs_list PySem.F.slot_list_append PySem.F.type_list_append mt_append (pv 1) (pa_cons (pv 8) pa_nil)))
      (pss_one (ps_expr (pe_bm PySem.F.plainAttrs_list PySem.F.slot_list_append PySem.F.type_list_append mt_append (pv 3) (pa_cons (pe_op op_add_str (pe_ix ix_list (pv 3) (pv 4) (fun _ _ => rfl)) (pe_ix ix_str pe_str (pv 6) (fun _ _ => rfl))) pa_nil))))) pss_nil)
      (pss_one (ps_expr (pe_bm PySem.F.plainAttrs_list PySem.F.slot_list_append PySem.F.type_list_append mt_append (pv 5) (pa_cons (pe_bm PySem.F.plainAttrs_list PySem.F.slot_list_index PySem.F.type_list_index (mt_indexD (hu65_of rm)) (pv 1) (pa_cons (pv 8) pa_nil)) pa_nil)))))))
      (pss_one (ps_expr (pe_bm PySem.F.plainAttrs_list PySem.F.slot_list_append PySem.F.type_list_append mt_append (pv 2) (pa_cons (pe_callTy call_tuple_of (by rfl) T.n_tuple boot_tuple (pa_cons (pv 5) pa_nil)) pa_nil))))))))
      (pss_one (ps_ret pe_non)))), ?_⟩
  obtain ⟨mvs, hmv, hmp⟩ := id hma
  have hml : mvs.length = Ms.length := paired_len hmp
  obtain ⟨M0, hM0⟩ : ∃ M, Ms[0]? = some M := ⟨_, List.getElem?_eq_getElem k1⟩
  obtain ⟨mvs', mb, e1, e2, e3⟩ := hma.row hM0
  have hM0l : M0.length = m := (hMs M0 (List.mem_of_getElem? hM0)).1
  have hnl : (nvs M0).length = m := by rw [nvs_len]; exact hM0l
  refine ⟨_, rfl, _, _, _, _, rfl, rfl, SqL.of e1, atI_nat (j := 0) e2, mb, _, rfl, .inl (SqL.of e3), ((nvs M0).length : Int), rfl, ⟨by omega, by omega, by omega, by omega, by omega⟩, fun ia hia => ⟨(by show 1 ≤ sizeLine; decide), fun ka hka => ?_⟩⟩
  rw [hnl, rg_nvs] at hka ⊢
  refine ⟨Nat.zero_le _, fun ra hra => ⟨(by show 1 ≤ sizeLine; decide), fun wa hwa => ⟨_, _, _, rfl, ?_⟩⟩⟩
  have ei := Ext.new (P := P) (w := w) (tb := tb) (C := CM K) (o := .tup (nvs (List.range m))) hia
  have ek := Ext.new (P := P) (w := w) (tb := tb) (C := CM K) (o := .lst [.ref ia]) hka
  have er := Ext.new (P := P) (w := w) (tb := tb) (C := CM K) (o := .lst []) hra
  have ew := Ext.new (P := P) (w := w) (tb := tb) (C := CM K) (o := .lst [.str ""]) hwa
  have L0 : LsI P w tb (CM K) H (upd (upd (upd (upd H ia (.tup (nvs (List.range m)))) ka (.lst [.ref ia])) ra (.lst [])) wa (.lst [.str ""])) ka ra wa [List.range m] [] [[]] [.ref ia] [] :=
    ⟨((ei.trans ek).trans er).trans ew, (er.trans ew).lst upd_same, .cons ⟨ia, rfl, ((ek.trans er).trans ew).tup upd_same⟩ .nil, ew.lst upd_same, .nil, upd_same, ei.nw hka, (ei.trans ek).nw hra, ((ei.trans ek).trans er).nw hwa, ne_of_none upd_same hra, ne_of_none (er.lst upd_same) hwa, ne_of_none upd_same hwa⟩
  refine ⟨(41 : Int), rfl, by decide, by decide, for_it (walk_range (n := 41)) (fun t σ H' => ∃ found rows ws kv rv y4 y5 y6 y7 y8 y9, σ = [some (.ref ma), some (.ref ka), some (.ref ra), some (.ref wa), y4, y5, y6, y7, y8, y9] ∧ LsI P w tb (CM K) H H' ka ra wa found rows ws kv rv ∧ Bfs (nxL Ms) Ms.length (List.range m) found rows ∧ WdI (nxL Ms) Ms.length (List.range m) found ws ∧ rows.length = t)
    ⟨[List.range m], [], [[]], [.ref ia], [], none, none, none, none, none, none, rfl, L0, Bfs.start _ _ _, WdI.start _ _ _, rfl⟩ (fun _ _ _ _ _ => trivial) (fun t x σ H' H6 ht ⟨found, rows, ws, kv, rv, y4, y5, y6, y7, y8, y9, es, L, B, W, hrt⟩ hy => ?_) fun σ H' ⟨found, rows, ws, kv, rv, y4, y5, y6, y7, y8, y9, es, L, B, W, hrt⟩ => ?_⟩
  · obtain ⟨rfl, rfl⟩ := hy
    subst es
    have hkl : kv.length = found.length := paired_len L.kp
    have hfl := goodF_le B.nd (goodF_all hMs B)
    have hle := B.le
    refine ⟨_, rfl, _, rfl, ka, _, rfl, .inl (SqL.of L.k), rfl, _, rfl, ite2 (fun heq => ?_) fun hne => ?_⟩
    · have heq' : rows.length = found.length := by
        simp at heq
        omega
      refine ⟨_, rfl, _, rfl, (by show 2 ≤ sizeLine; decide), fun p hp => ?_⟩
      have ep := Ext.new (P := P) (w := w) (tb := tb) (C := CM K) (o := .tup [.ref ra, .ref wa]) hp
      have L' := L.ext ep
      have GT := maps_good hMs B heq' (by omega) k1 k6
      refine q _ _ L'.e (.inr ⟨p, ra, wa, rows, found.length, ws, rfl, upd_same, ⟨rv, L'.r, L'.rp⟩, L'.w, GT, hfl, by omega, W.len, fun i p hp => ?_⟩)
      obtain ⟨a1, a2, a3⟩ := W.ok i p hp
      have hil := (List.getElem?_eq_some_iff.mp hp).1
      have := W.len
      exact ⟨W.val_ B heq' hp, a1, by omega⟩
    · have hne' : rows.length < found.length := by
        have : rows.length ≠ found.length := fun z => by
          simp at hne
          exact hne (by omega)
        omega
      have hx : found[rows.length]? = some found[rows.length] := List.getElem?_eq_getElem hne'
      refine ⟨Nat.zero_le _, fun D hD => ?_⟩
      have eD := Ext.new (P := P) (w := w) (tb := tb) (C := CM K) (o := .lst []) hD
      have LD := L.ext eD
      have nD : Nw H D := L.e.nw hD
      have dD : ka ≠ D ∧ ra ≠ D ∧ wa ≠ D := ⟨ne_of_none L.k hD, ne_of_none L.r hD, ne_of_none L.w hD⟩
      have hmvD := LD.e.lst hmv
      have hysl : ((List.range Ms.length).map (nxL Ms found[rows.length])).length = Ms.length := by simp
      have hysg : ∀ c, c < Ms.length → ((List.range Ms.length).map (nxL Ms found[rows.length]))[c]? = some (nxL Ms found[rows.length] c) := fun c hc => by
        rw [List.getElem?_map, List.getElem?_range hc] <;> rfl
      have B2 := B.step hx
      have hgx := goodF_all hMs B _ (List.mem_of_getElem? hx)
      generalize hys : (List.range Ms.length).map (nxL Ms found[rows.length]) = ys at hysl hysg B2
      generalize hxx : found[rows.length] = x at hx hysg B2 hgx hys
      refine ⟨_, rfl, en_for (.inr hmvD) (fun c σ H' => ∃ found' ws' kv' y6 y7 y8 y9, σ = [some (.ref ma), some (.ref ka), some (.ref ra), some (.ref wa), some (V.int (0 + (t : Int))), some (.ref D), y6, y7, y8, y9] ∧ LsI P w tb (CM K) H H' ka ra wa found' rows ws' kv' rv ∧ H' D = some (.lst (nvs ((ys.take c).map fun y => @List.idxOf _ instBEqOfDecidableEq y (grow found ys)))) ∧ found' = grow found (ys.take c) ∧ WdI (nxL Ms) Ms.length (List.range m) found' ws')
        ⟨found, ws, kv, y6, y7, y8, y9, rfl, LD, upd_same, by simp [grow_nil], W⟩ (fun c σ H' ⟨_, _, _, _, _, _, _, _, L3, _⟩ => by rw [L3.e.lst hmv, hmvD]) (fun c σ H' T2 z hz ⟨found', ws', kv', y6, y7, y8, y9, es, L3, hD3, hg3, W3⟩ hT => ?_) fun σ H' ⟨found', ws', kv', y6, y7, y8, y9, es, L3, hD3, hg3, W3⟩ => ?_⟩
      · subst es
        have hck : c < Ms.length := by rw [← hml]; exact (List.getElem?_eq_some_iff.mp hz).1
        have eT := Ext.new (P := P) (w := w) (tb := tb) (C := CM K) (o := .tup [nv c, z]) hT
        have L4 := L3.ext eT
        have hD4 := eT.lst hD3
        obtain ⟨M, hM, Mb, rfl, hMb⟩ := paired_get' hmp hz
        have hMb4 := L4.e.lst hMb
        have hMd : Ms.getD c [] = M := by rw [List.getD_eq_getElem?_getD, hM] <;> rfl
        obtain ⟨hMl, hMlt⟩ := hMs M (List.mem_of_getElem? hM)
        have hyc := hysg c hck
        -- the tuple known[turn]
        have hx' : found'[rows.length]? = some x := by
          obtain ⟨tt, htt⟩ := grow_pre (ys.take c) found
          rw [hg3, htt, List.getElem?_append_left hne']
          exact hx
        obtain ⟨xv, gxv, xa, rfl, hxa⟩ := paired_get L4.kp hx'
        have gx : kv'[t]? = some (.ref xa) := by rw [← hrt]; exact gxv
        have et0 : (V.int (0 + (t : Int))) = nv t := by show _ = V.int (t : Int); rw [Int.zero_add]
        refine ⟨_, rfl, _, rfl, _, _, _, _, rfl, rfl, SqL.of L4.k, by rw [Int.zero_add]; exact atI_nat (j := t) gx, lc_t (P := P) (w := w) (tb := tb) (C := CM K) hxa (fun _ i y H => y = nv (at_ M (at_ x i))) (fun D => stab_val fun i => nv (at_ M (at_ x i))) (by rw [nvs_len, hgx.1]; omega) (fun _ => ?_) (fun D5 i z5 H5 acc hz5 e5 hD5 hac Qk qk => ?_) (fun D5 H5 zs hD5 e5 hzs hl5 hr5 => ?_)⟩
        · rfl
        · rw [nvs_get] at hz5
          obtain ⟨p, hp, rfl⟩ := Option.map_eq_some_iff.mp hz5
          have hpm := hgx.2 p (List.mem_of_getElem? hp)
          refine ⟨_, rfl, _, rfl, _, _, _, _, rfl, rfl, SqL.of (e5.lst hMb4), atI_nat (j := p) (v := nv (at_ M p)) (by rw [nvs_get, atGet (by rw [hMl]; exact hpm)]; rfl), ?_⟩
          refine qk _ _ (.refl _) ?_
          rw [at_of hp]
        · have ezs : zs = nvs (nxL Ms x c) := by
            unfold nxL
            rw [hMd]
            refine nvs_map (by rw [hl5, nvs_len]) fun i y p hy hp => ?_
            rw [hr5 i y hy, at_of hp]
          subst ezs
          refine ⟨D5, _, rfl, .inl ⟨SqL.of hzs, fun tl htl => ?_⟩⟩
          have e6 := e5.trans (Ext.new (P := P) (w := w) (tb := tb) (C := CM K) (o := .tup (nvs (nxL Ms x c))) htl)
          have L6 := L4.ext e6
          have hD6 := e6.lst hD4
          have hv6 : IntTup (upd H5 tl (.tup (nvs (nxL Ms x c)))) (.ref tl) (nxL Ms x c) := ⟨tl, rfl, upd_same⟩
          have htk : ys.take (c + 1) = ys.take c ++ [nxL Ms x c] := take_snoc hyc
          have hnd3 : found'.Nodup := by rw [hg3]; exact grow_nodup _ _ B.nd
          have hfa : ∀ f ∈ grow found ys, GoodF m f := goodF_all hMs B2
          have hpre : ∀ {q}, (∃ r, ys = q ++ r) → (grow found q).length ≤ (grow found ys).length := fun {q} ⟨r, hr⟩ => by
            obtain ⟨tt, htt⟩ := grow_pre r (grow found q)
            rw [hr, grow_app, htt, List.length_append]
            omega
          have hfin := goodF_le B2.nd hfa
          have hf41 : found'.length ≤ 60 + found.length := by
            obtain ⟨tt, htt⟩ := grow_pre (ys.take c) found
            have h1 := ndLe (l := found') (m := found ++ ys.take c) hnd3 fun f hf => by
              rw [hg3] at hf
              exact List.mem_append.mpr ((grow_mem _ _ _).mp hf)
            rw [List.length_append, List.length_take] at h1
            omega
          have hf6 : found.length ≤ 1 + 6 * rows.length := B.small k6
          refine ⟨fun σ8 H8 => ∃ found8 ws8 kv8 y9, σ8 = [some (.ref ma), some (.ref ka), some (.ref ra), some (.ref wa), some (V.int (0 + (t : Int))), some (.ref D), some (nv c), some (.ref Mb), some (.ref tl), y9] ∧ LsI P w tb (CM K) H H8 ka ra wa found8 rows ws8 kv8 rv ∧ H8 D = some (.lst (nvs ((ys.take c).map fun y => @List.idxOf _ instBEqOfDecidableEq y (grow found ys)))) ∧ found8 = grow found (ys.take (c + 1)) ∧ WdI (nxL Ms) Ms.length (List.range m) found8 ws8 ∧ IntTup H8 (.ref tl) (nxL Ms x c), ?_, fun σ8 H8 h8 => ?_⟩
          · refine ⟨_, rfl, _, rfl, dT (nxL Ms x c), found'.map dT, dp_tup hv6, dp_lT (SqL.of L6.k) L6.kp, dT_shaped _, lT_shaped _, _, rfl, ?_⟩
            rw [any_dT]
            refine ite2 (fun hnew => ?_) fun hold => ?_
            · have hnew' : nxL Ms x c ∉ found' := by simpa using hnew
              obtain ⟨wp, hwp⟩ : ∃ p, ws'[rows.length]? = some p := ⟨_, List.getElem?_eq_getElem (by rw [W3.len]; exact (List.getElem?_eq_some_iff.mp hx').1)⟩
              have hkl6 : kv'.length = found'.length := paired_len L6.kp
              have hwl := W3.len
              obtain ⟨hw1, L7⟩ := L6.addK (v := .ref tl) (p := wp ++ [c]) hv6
              obtain ⟨o1, o2, o3⟩ := W3.ok _ wp hwp
              have hwg : (ws'.map fun p => V.str (wordStr p))[t]? = some (.str (wordStr wp)) := by rw [List.getElem?_map, ← hrt, hwp] <;> rfl
              refine ⟨_, rfl, .inl ⟨rfl, _, SqL.of L6.k⟩, _, rfl, ka, _, _, rfl, rfl, L6.k, line_of (by omega), ?_⟩
              refine ⟨_, rfl, .inl ⟨rfl, _, SqL.of hw1⟩, _, rfl, _, rfl, _, _, _, _, rfl, rfl, SqL.of hw1, by rw [Int.zero_add]; exact atI_nat (j := t) hwg, _, rfl, _, _, 97 + c, rfl, rfl, (by decide), letter_at (by omega), ?_⟩
              refine ⟨_, _, rfl, rfl, ?_, ?_⟩
              · rw [wordStr_len]
                show wp.length + 1 ≤ sizeLine
                exact Nat.le_of_lt (line_of (by omega))
              · rw [wordStr_snoc]
                refine ⟨wa, _, _, rfl, rfl, hw1, line_of (by simp; omega), ?_⟩
                have hw1' : (upd (upd H5 tl (.tup (nvs (nxL Ms x c)))) ka (.lst (kv' ++ [.ref tl]))) D = some (.lst (nvs ((ys.take c).map fun y => @List.idxOf _ instBEqOfDecidableEq y (grow found ys)))) := by rw [upd_ne dD.1.symm]; exact hD6
                have kt := tup_upd (o := .lst (kv' ++ [.ref tl])) L6.k rfl
                have kt2 := tup_upd (o := .lst ((ws'.map fun p => V.str (wordStr p)) ++ [.str (wordStr (wp ++ [c]))])) hw1 rfl
                refine ⟨found' ++ [nxL Ms x c], ws' ++ [wp ++ [c]], kv' ++ [.ref tl], _, rfl, L7, by rw [upd_ne dD.2.2.symm]; exact hw1', ?_, W3.add hwp hx' hck, hv6.mono fun a xs h => kt2 a xs (kt a xs h)⟩
                rw [htk, grow_snoc, ← hg3, if_neg hnew']
            · have hold' : nxL Ms x c ∈ found' := by simpa using hold
              refine ⟨found', ws', kv', _, rfl, L6, hD6, ?_, W3, hv6⟩
              rw [htk, grow_snoc, ← hg3, if_pos hold']
          · obtain ⟨found8, ws8, kv8, y9, rfl, L8, hD8, hg8, W8, hv8⟩ := h8
            obtain ⟨i1, i2⟩ := grow_idx (f := found) hyc
            rw [← hg8] at i1 i2
            have hgi := idx_get i1
            have hnd8 : found8.Nodup := by rw [hg8]; exact grow_nodup _ _ B.nd
            have hrowl : (nvs ((ys.take c).map fun y => @List.idxOf _ instBEqOfDecidableEq y (grow found ys))).length ≤ 10 := by
              rw [nvs_len, List.length_map, List.length_take]
              omega
            refine ⟨_, rfl, .inl ⟨rfl, _, SqL.of hD8⟩, _, rfl, .inl ⟨rfl, _, SqL.of L8.k⟩, _, rfl, ka, _, dT (nxL Ms x c), found8.map dT, (@List.idxOf _ instBEqOfDecidableEq (nxL Ms x c) found8), dT (nxL Ms x c), rfl, rfl, dp_lT (SqL.of L8.k) L8.kp, dp_tup hv8, lT_shaped _, dT_shaped _, by rw [List.getElem?_map, hgi]; rfl, by rw [dT_eqv]; simp, fun mm z' hmm hz' => ?_, ?_⟩
            · rw [List.getElem?_map] at hz'
              obtain ⟨f, hf, rfl⟩ := Option.map_eq_some_iff.mp hz'
              rw [dT_eqv]
              refine decide_eq_false fun z => ?_
              subst z
              have := idx_eq hnd8 hf
              omega
            · refine ⟨D, _, _, rfl, rfl, hD8, line_of (by omega), ?_⟩
              refine ⟨found8, ws8, kv8, _, _, _, _, rfl, L8.other nD hD8 dD, ?_, hg8, W8⟩
              have e9 : V.int ((@List.idxOf _ instBEqOfDecidableEq (nxL Ms x c) found8 : Nat) : Int) = nv (@List.idxOf _ instBEqOfDecidableEq (nxL Ms x c) (grow found ys)) := by rw [i2] <;> rfl
              rw [e9, nvs_snoc, upd_same, htk, List.map_append] <;> rfl
      · subst es
        have etk : ys.take mvs.length = ys := List.take_of_length_le (by omega)
        rw [etk] at hD3 hg3
        refine ⟨_, rfl, .inl ⟨rfl, _, SqL.of L3.r⟩, _, rfl, D, _, rfl, .inl ⟨SqL.of hD3, fun tl htl => ?_⟩⟩
        have eT := Ext.new (P := P) (w := w) (tb := tb) (C := CM K) (o := .tup (nvs (ys.map fun y => @List.idxOf _ instBEqOfDecidableEq y (grow found ys)))) htl
        have L4 := L3.ext eT
        have hrl : rv.length = rows.length := paired_len L4.rp
        refine ⟨ra, _, _, rfl, rfl, L4.r, line_of (by omega), ?_⟩
        subst hg3
        exact ⟨_, _, _, _, _, _, _, _, _, _, _, rfl, L4.addR ⟨tl, rfl, upd_same⟩, B2, W3, by simp; omega⟩
  · subst es
    have hle := B.le
    have hfl := goodF_le B.nd (goodF_all hMs B)
    exact q _ _ L.e (.inl ⟨rfl, by omega⟩)
end
end K95
set_option Elab.async false
set_option linter.all false
set_option maxRecDepth 100000
set_option maxHeartbeats 4000000
set_option autoImplicit false
namespace K95
open PySem PySem.Spec PyProof.Rows L2
/-- what is drawn -/
def DrawnR (H : Hp) (v : V) (most : Nat) : Prop := ∃ (p r wa : Addr) (T : Tab) (n k : Nat) (ws : List (List Nat)), v = .ref p ∧ H p = some (.tup [.ref r, .ref wa]) ∧ RowsLT H r T ∧ H wa = some (.lst (ws.map fun p => V.str (wordStr p))) ∧ Good T n k ∧ n ≤ most ∧ k ≤ 3 ∧ WordsOk T n k ws
theorem drawn_of {H : Hp} {p pp rr wa : Addr} {x c : Int} {t n k most : Nat} {TT : Tab} {ws : List (List Nat)} (hs : H p = some (srcO x c t)) (hpp : H pp = some (.tup [.ref rr, .ref wa])) (hrr : RowsLT H rr TT) (hwa : H wa = some (.lst (ws.map fun p => V.str (wordStr p)))) (hG : Good TT n k) (hm : n ≤ most) (hk : k ≤ 3) (hW : WordsOk TT n k ws) : DrawnR (Hide p H) (.ref pp) most := by
  refine ⟨pp, rr, wa, TT, n, k, ws, rfl, hide_of hpp hs fun z => (by cases z), hrr.hide hG.form hs, hide_of hwa hs fun z => ?_, hG, hm, hk, hW⟩
  have e := HO.lst.inj z
  have h1 := hW.len
  have h2 := hG.form.n1
  cases ws with
  | nil => simp at h1; omega
  | cons a ws => simp at e
section
variable {P : Program} {w : World} {K : PySem.W.Frag} {mg : Str → Option Value} {base : Heap} {tb : Tbs}
def spDrawn (P : Program) (w : World) (tb : Tbs) (K : PySem.W.Frag) : Sp := fun vs H Q _ => ∃ (p : Addr) (x c : Int) (t most : Nat), vs = [.ref p, nv most] ∧ H p = some (srcO x c t) ∧ t ≤ 800000 ∧ 4 ≤ most ∧ most ≤ 40 ∧
  ∀ H' v x' t', Ext P w tb (CM K) (Hide p H) (Hide p H') → H' p = some (srcO x' c t') → t' ≤ t + 100 → DrawnR (Hide p H') v most → Q v H'
theorem sc_d_law_drawn : FnScope ["_law_source_here", "_law_most", "_law_turn", "_law_many", "_law_points", "_law_maps", "_law_point", "_law_letter", "_law_found"] ["_law_source_here", "_law_most"] d_law_drawn.scope := ⟨rfl, rfl, rfl, by decide +kernel, rfl, by decide +kernel, by decide +kernel⟩
theorem go_law_drawn (T : Txt K mg) : Go P w K mg base "_law_drawn" ["_law_source_here", "_law_most"] 3 (spDrawn P w tb K) := by
  obtain ⟨fd, F⟩ := T.fn 48
  obtain ⟨f_law_listed, fd_law_listed, m_law_listed, k_law_listed, b_law_listed, G_law_listed⟩ := go_law_listed (P := P) (w := w) (base := base) (tb := tb) T
  obtain ⟨f_law_next, fd_law_next, m_law_next, k_law_next, b_law_next, G_law_next⟩ := go_law_next (P := P) (w := w) (base := base)  T
  refine ⟨_, fd, T.g_law_drawn, F.kp, F.bindsN (fun _ _ _ _ _ _ us hl => match us, hl with | [_, _], _ => rfl), okN F sc_d_law_drawn (fun vs H Q E h => by
    obtain ⟨_, _, _, _, _, rfl, _⟩ := h
    rfl) (fun cdv A outer s H vs Q E rm h => ?_)⟩
  obtain ⟨p, x, c, t, most, rfl, hp, ht, hm4, hm40, q⟩ := h
  refine ⟨_, (pss_cons (ps_for PassesOwn.never rfl (pi_range1 rfl T.n_range (pa_cons pe_int pa_nil)) (pg_name (i := 2) sc_d_law_drawn.nd rfl (Or.inl rfl))
      (pss_cons (ps_asg (pe_tup (pa_cons (pe_op op_add pe_int (pe_call G_law_next (rm.mono (by decide)) rfl m_law_next k_law_next b_law_next .nil pass0 (pa_cons (pv 0) (pa_cons pe_int pa_nil)))) (pa_cons (pe_op op_add pe_int (pe_call G_law_next (rm.mono (by decide)) rfl m_law_next k_law_next b_law_next .nil pass0 (pa_cons (pv 0) (pa_cons pe_int pa_nil)))) pa_nil))) (pg_tup (n := 2) rfl (pgs_cons (pg_name (i := 3) sc_d_law_drawn.nd rfl (Or.inl rfl)) (pgs_cons (pg_name (i := 4) sc_d_law_drawn.nd rfl (Or.inr rfl)) pgs_nil))))
      (pss_cons (ps_setLc (i := 5) (own := [("_law_letter", 7)]) (g := gName 7) rfl sc_d_law_drawn.nd rfl rfl (sw_true rfl rfl rfl (by decide +kernel)) (pi_range1 rfl T.n_range (pa_cons (pv 3) pa_nil)) (blkOk_by (N := ["_law_source_here", "_law_most", "_law_turn", "_law_many", "_law_points", "_law_maps", "_law_point", "_law_letter", "_law_found"]) (sc := d_law_drawn.scope) (by decide +kernel)) (fun _ _ _ _ _ => (pg_name (i := 7) sc_d_law_drawn.nd rfl (Or.inl rfl))) (fun _ _ _ _ _ => pts_nil) (fun _ _ _ _ _ => pe_c (pe_lc (own := [("_law_point", 6)]) (g := gName 6) rfl sc_d_law_drawn.nd (pi_range1 rfl T.n_range (pa_cons (pv 4) pa_nil)) (show BlkOk ["_law_source_here", "_law_most", "_law_turn", "_law_many", "_law_points", "_law_maps", "_law_point", "_law_letter", "_law_found"] (relS _ d_law_drawn.scope) _ _ from blkOk_by (by decide +kernel)) (fun _ _ _ _ _ => (pg_name (i := 6) sc_d_law_drawn.nd rfl (Or.inl rfl))) (fun _ _ _ _ _ => pts_nil) (fun _ _ _ _ _ => pe_c (pe_call G_law_next (rm.mono (by decide)) rfl m_law_next k_law_next b_law_next .nil pass0 (pa_cons (pv 0) (pa_cons (pv 4) pa_nil)))))))
      (pss_cons (ps_set (i := 8) sc_d_law_drawn.nd rfl (Or.inl rfl) (pe_call G_law_listed (rm.mono (by decide)) rfl m_law_listed k_law_listed b_law_listed .nil pass0 (pa_cons (pv 5) pa_nil)))
      (pss_one (ps_if (PW.pt (pw_and (pt_cmpR (op_notN) (pv 8) pe_non (nomark _)) (pw_and1 (pt_cmpR (op_le) (pe_callB call_len_seq (by rfl) T.n_len boot_len (pa_cons (pe_ix ix_tup (pv 8) pe_int (fun _ _ => rfl)) pa_nil)) (pv 1) (nomark _))))) (pss_one (ps_ret (pv 8))) pss_nil))))))
      (pss_one (ps_ret (pe_call G_law_listed (rm.mono (by decide)) rfl m_law_listed k_law_listed b_law_listed .nil pass0 (pa_cons (pe_slice sl_list (pe_lst (pa_cons (pe_lst (pa_cons pe_int (pa_cons pe_int pa_nil))) (pa_cons (pe_lst (pa_cons pe_int (pa_cons pe_int pa_nil))) pa_nil))) po_none (po_some (pe_op op_add pe_int (pe_call G_law_next (rm.mono (by decide)) rfl m_law_next k_law_next b_law_next .nil pass0 (pa_cons (pv 0) (pa_cons pe_int pa_nil)))))) pa_nil))))), ?_⟩
  have b0 : DrI P w tb (CM K) p c t 0 H H := .refl hp
  refine ⟨(6 : Int), rfl, by decide, by decide, for_it (walk_range (n := 6)) (fun i σ H' => ∃ y2 y3 y4 y5 y8, σ = [some (.ref p), some (nv most), y2, y3, y4, y5, none, none, y8] ∧ DrI P w tb (CM K) p c t (16 * i) H H') ⟨none, none, none, none, none, rfl, b0⟩ (fun _ _ _ _ _ => trivial)
    (fun i y σ H' H1 hi ⟨y2, y3, y4, y5, y8, es, B⟩ hy => ?_) fun σ H' ⟨y2, y3, y4, y5, y8, es, B⟩ => ?_⟩
  · obtain ⟨rfl, rfl⟩ := hy
    subst es
    obtain ⟨x1, t1, hp1, ht1⟩ := B.s
    refine ⟨_, rfl, p, x1, c, t1, 3, rfl, hp1, by omega, by omega, by omega, fun x2 r1 hr1 t2 ht2 => ?_⟩
    have B2 := B.next (x' := x2) (t' := t2) (by omega)
    refine ⟨_, _, rfl, rfl, _, rfl, p, x2, c, t2, 3, rfl, upd_same, by omega, by omega, by omega, fun x3 r2 hr2 t3 ht3 => ?_⟩
    have B3 := B2.next (x' := x3) (t' := t3) (by omega)
    refine ⟨_, _, rfl, rfl, (by show 2 ≤ sizeLine; decide), fun tt htt => ⟨tt, _, rfl, SqT.of upd_same, rfl, _, _, rfl, _, [], rfl, rfl, ?_⟩⟩
    have B4 := B3.new (o := .tup [V.int (1 + (r1 : Int)), V.int (2 + (r2 : Int))]) htt
    obtain ⟨x4, t4, hp4, ht4⟩ := B4.s
    generalize hH4 : upd (upd (upd H1 p (srcO x2 c t2)) p (srcO x3 c t3)) tt (.tup [V.int (1 + (r1 : Int)), V.int (2 + (r2 : Int))]) = H4 at B4 hp4
    refine ⟨_, rfl, ((1 + r1 : Nat) : Int), rfl, by omega, by omega, fun D hD => ?_⟩
    have hDp : D ≠ p := B4.ne hD
    have nD4 : Nw (Hide p H) D := B4.nw hD
    refine lc_it (walk_range (n := 1 + r1)) (fun i H' => DrI P w tb (CM K) p c t4 (i * (2 + r2)) H4 H' ∧ ∃ ys Ls, H' D = some (.lst ys) ∧ ys.length = i ∧ Paired (IntLstN D (Hide p H')) ys Ls ∧ ∀ L ∈ Ls, L.length = 2 + r2 ∧ ∀ z ∈ L, z < 2 + r2)
      ⟨((DrI.refl hp4).new hD).mono (Nat.zero_le _), [], [], upd_same, rfl, .nil, fun L h => by cases h⟩ (fun _ _ _ _ => trivial) (fun j z H5 H6 hj ⟨B5, ys, Ls, hy5, hl5, hp5, hL5⟩ hyy => ?_) fun H5 ⟨B5, ys, Ls, hy5, hl5, hp5, hL5⟩ => ?_
    · obtain ⟨rfl, rfl⟩ := hyy
      obtain ⟨x5, t5, hs5, ht5⟩ := B5.s
      have nD5 : Nw (Hide p H4) D := .of (hide_none hD)
      refine ⟨rfl, _, rfl, ((2 + r2 : Nat) : Int), rfl, by omega, by omega, fun D2 hD2 => ?_⟩
      have hD2p : D2 ≠ p := fun z => by rw [z, hs5] at hD2; cases hD2
      have nD2 : Nw (Hide p H6) D2 := .of (hide_none hD2)
      refine lc_it (walk_range (n := 2 + r2)) (fun i H' => DrI P w tb (CM K) p c t5 i H6 H' ∧ ∃ l, H' D2 = some (.lst (nvs l)) ∧ l.length = i ∧ ∀ z ∈ l, z < 2 + r2)
        ⟨(DrI.refl hs5).new hD2, [], upd_same, rfl, fun z h => by cases h⟩ (fun _ _ _ _ => trivial) (fun i z H7 H8 hi ⟨B7, l, hl7, hll, hlt⟩ hyy => ?_) fun H7 ⟨B7, l, hl7, hll, hlt⟩ => ?_
      · obtain ⟨rfl, rfl⟩ := hyy
        obtain ⟨x7, t7, hs7, ht7⟩ := B7.s
        refine ⟨rfl, _, rfl, _, rfl, p, x7, c, t7, 2 + r2, rfl, hs7, ?_, by omega, by omega, fun x8 r8 hr8 t8 ht8 => ?_⟩
        · have : j * (2 + r2) ≤ 3 * 4 := Nat.mul_le_mul (by omega) (by omega)
          omega
        · have hne2 : D2 ≠ p := hD2p
          have hD2' : (upd H8 p (srcO x8 c t8)) D2 = some (.lst (nvs l)) := by rw [upd_ne hD2p]; exact hl7
          refine ⟨_, hD2', by rw [nvs_len]; exact line_of (by omega), (B7.next (by omega)).mut nD2 hD2' rfl hD2p, l ++ [r8], by rw [upd_same, nvs_snoc], by simp [hll], fun z hz => ?_⟩
          rcases List.mem_append.mp hz with h | h
          · exact hlt z h
          · rw [List.mem_singleton.mp h]
            exact hr8
      · have hD7 : H7 D = some (.lst ys) := by
          have h1 : Hide p H6 D = some (.lst ys) := by rw [hide_ne hDp]; exact hy5
          exact (hide_some (B7.e.lst h1)).1
        have hD2D : D2 ≠ D := fun z => by rw [z, hy5] at hD2; cases hD2
        have hB := B5.trans hs5 ht5 B7
        refine ⟨_, hD7, line_of (by omega), ?_, ys ++ [.ref D2], Ls ++ [l], upd_same, by simp [hl5], ?_, fun L hL => ?_⟩
        · have := hB.mut (o := .lst (ys ++ [.ref D2])) nD5 hD7 rfl hDp
          exact this.mono (by rw [Nat.add_mul]; omega)
        · rw [hide_upd hDp]
          refine paired_app (Paired.mapP hp5 fun _ _ z => (z.ext B7.e).upd) (.cons ⟨D2, rfl, hD2D, ?_⟩ .nil)
          rw [upd_ne hD2D, hide_ne hD2p]
          exact hl7
        · rcases List.mem_append.mp hL with h | h
          · exact hL5 L h
          · rw [List.mem_singleton.mp h]
            exact ⟨hll, hlt⟩
    · have hLl : Ls.length = 1 + r1 := by rw [← paired_len hp5, hl5]
      have h12 : (1 + r1) * (2 + r2) ≤ 3 * 4 := Nat.mul_le_mul (by omega) (by omega)
      have B6 : DrI P w tb (CM K) p c t (16 * i + 14) H H5 := (B4.trans hp4 ht4 B5).mono (by omega)
      have hma : TabLL H5 D Ls := ⟨ys, hy5, Paired.mapP hp5 fun _ _ ⟨b, e1, e2, e3⟩ => ⟨b, e1, (hide_some e3).1⟩⟩
      refine ⟨_, rfl, D, Ls, 2 + r2, rfl, hma, hL5, by omega, by omega, by omega, fun H9 v e9 hv => ?_⟩
      have B9 := (B6.call e9).mono (b' := 16 * (i + 1)) (by omega)
      obtain ⟨x9, t9, hs9, ht9⟩ := B9.s
      rcases hv with ⟨rfl, _⟩ | ⟨pp, rr, wa, TT, n, ws, rfl, hpp, hrr, hwa, hG, hnm, hn40, hW⟩
      · refine ⟨_, rfl, rfl, _, rfl, ?_⟩
        exact ⟨_, _, _, _, _, rfl, B9⟩
      · obtain ⟨rvs, hr1', hr2'⟩ := id hrr
        have hrl : rvs.length = n := by rw [paired_len hr2', hG.form.len]
        refine ⟨_, rfl, rfl, _, rfl, iteT rfl ?_⟩
        refine ⟨_, rfl, _, _, _, _, rfl, rfl, SqT.of hpp, atI_nat (j := 0) rfl, rr, rvs, rfl, .inl (SqL.of hr1'), _, rfl, _, _, rfl, rfl, _, rfl, ite2 (fun hle => ?_) fun hgt => ?_⟩
        · have hle' : n ≤ most := by
            have := of_decide_eq_true hle
            omega
          refine ⟨_, rfl, q H9 _ x9 t9 B9.e hs9 (by omega) (drawn_of hs9 hpp hrr hwa hG hle' (by omega) hW)⟩
        · exact ⟨_, _, _, _, _, rfl, B9⟩
  · subst es
    refine ⟨(by show 2 ≤ sizeLine; decide), fun a1 ha1 => ⟨(by show 2 ≤ sizeLine; decide), fun a2 ha2 => ⟨(by show 2 ≤ sizeLine; decide), fun a3 ha3 => ?_⟩⟩⟩
    have C1 := B.new (o := .lst [.int 1, .int 0]) ha1
    have C2 := C1.new (o := .lst [.int 0, .int 0]) ha2
    have C3 := C2.new (o := .lst [.ref a1, .ref a2]) ha3
    have n1 := B.ne ha1
    have n2 := C1.ne ha2
    have n3 := C2.ne ha3
    have n12 : a1 ≠ a2 := ne_of_none upd_same ha2
    have n13 : a1 ≠ a3 := ne_of_none (by rw [upd_ne n12]; exact upd_same) ha3
    have n23 : a2 ≠ a3 := ne_of_none upd_same ha3
    have g1 : (upd (upd (upd H' a1 (.lst [.int 1, .int 0])) a2 (.lst [.int 0, .int 0])) a3 (.lst [.ref a1, .ref a2])) a1 = some (.lst [.int 1, .int 0]) := by rw [upd_ne n13, upd_ne n12, upd_same]
    have g2 : (upd (upd (upd H' a1 (.lst [.int 1, .int 0])) a2 (.lst [.int 0, .int 0])) a3 (.lst [.ref a1, .ref a2])) a2 = some (.lst [.int 0, .int 0]) := by rw [upd_ne n23, upd_same]
    have g3 : (upd (upd (upd H' a1 (.lst [.int 1, .int 0])) a2 (.lst [.int 0, .int 0])) a3 (.lst [.ref a1, .ref a2])) a3 = some (.lst [.ref a1, .ref a2]) := upd_same
    generalize (upd (upd (upd H' a1 (.lst [.int 1, .int 0])) a2 (.lst [.int 0, .int 0])) a3 (.lst [.ref a1, .ref a2])) = H3 at C3 g1 g2 g3
    obtain ⟨x3, t3, hs3, ht3⟩ := C3.s
    refine ⟨_, rfl, p, x3, c, t3, 2, rfl, hs3, by omega, by omega, by omega, fun x4 r4 hr4 t4 ht4 => ?_⟩
    have C4 := C3.next (x' := x4) (t' := t4) (by omega)
    have k1 : (upd H3 p (srcO x4 c t4)) a1 = some (.lst [.int 1, .int 0]) := by rw [upd_ne n1]; exact g1
    have k2 : (upd H3 p (srcO x4 c t4)) a2 = some (.lst [.int 0, .int 0]) := by rw [upd_ne n2]; exact g2
    have k3 : (upd H3 p (srcO x4 c t4)) a3 = some (.lst [.ref a1, .ref a2]) := by rw [upd_ne n3]; exact g3
    refine ⟨_, _, rfl, rfl, _, rfl, a3, _, rfl, SqL.of k3, fun a4 ha4 => ?_⟩
    have ec : cutV [V.ref a1, V.ref a2] none (some (1 + (r4 : Int))) = [V.ref a1, V.ref a2].take (1 + r4) := by
      have : r4 = 0 ∨ r4 = 1 := by omega
      rcases this with rfl | rfl <;> rfl
    have C5 := C4.new (o := .lst ([V.ref a1, V.ref a2].take (1 + r4))) ha4
    have eN := Ext.new (P := P) (w := w) (tb := tb) (C := CM K) (o := .lst ([V.ref a1, V.ref a2].take (1 + r4))) ha4
    have fin : ∀ H9 v, Ext P w tb (CM K) (upd (upd H3 p (srcO x4 c t4)) a4 (.lst ([V.ref a1, V.ref a2].take (1 + r4)))) H9 → ListedR H9 v 2 (([[1, 0], [0, 0]] : List (List Nat)).take (1 + r4)).length → Q v H9 := fun H9 v e9 hv => by
      have C9 := C5.call e9
      obtain ⟨x9, t9, hs9, ht9⟩ := C9.s
      rcases hv with ⟨_, h⟩ | ⟨pp, rr, wa, TT, n, ws, rfl, hpp, hrr, hwa, hG, hnm, hn40, hW⟩
      · exact absurd h (by decide)
      · have h4 : n ≤ 4 := hnm
        refine q H9 _ x9 t9 C9.e hs9 (by omega) (drawn_of hs9 hpp hrr hwa hG (by omega) ?_ hW)
        rw [List.length_take]
        exact Nat.le_trans (Nat.min_le_right _ _) (by decide)
    have hma : TabLL (upd (upd H3 p (srcO x4 c t4)) a4 (.lst ([V.ref a1, V.ref a2].take (1 + r4)))) a4 (([[1, 0], [0, 0]] : List (List Nat)).take (1 + r4)) :=
      ⟨_, upd_same, paired_take (.cons ⟨a1, rfl, eN.lst k1⟩ (.cons ⟨a2, rfl, eN.lst k2⟩ .nil)) _⟩
    rw [ec]
    have hr4' : 1 + r4 = 1 ∨ 1 + r4 = 2 := by omega
    refine ⟨a4, ([[1, 0], [0, 0]] : List (List Nat)).take (1 + r4), 2, rfl, hma, fun M hM => ?_, ?_, ?_, by omega, fun H9 v e9 hv => fin H9 v e9 hv⟩
    · have hM' := List.mem_of_mem_take hM
      simp at hM'
      rcases hM' with rfl | rfl
      · exact ⟨rfl, by decide⟩
      · exact ⟨rfl, by decide⟩
    · rcases hr4' with e | e <;> rw [e] <;> decide
    · rcases hr4' with e | e <;> rw [e] <;> decide
end
end K95
set_option Elab.async false
set_option linter.all false
set_option maxRecDepth 100000
set_option maxHeartbeats 4000000
set_option autoImplicit false
namespace K95
open PySem PySem.Spec PyProof.Rows L2
theorem cr_setLw {X : Cx} {w : World} (hw : X.w = w) (hc : X.calm = true) : CallR X (.type "set") (rSetL X.K w) := hw ▸ cr_setL hc
theorem cr_sortedSetw {X : Cx} {w : World} (hw : X.w = w) (hc : X.calm = true) : CallR X (.builtin "sorted") (rSortedSet w) := hw ▸ cr_sortedSet hc
/-- a list of numbers that is none of two -/
def IntLst2 (fa da : Addr) (H : Hp) (v : V) (l : List Nat) : Prop := ∃ b, v = .ref b ∧ b ≠ fa ∧ b ≠ da ∧ H b = some (.lst (nvs l))
theorem IntLst2.ext {P : Program} {w : World} {tb : Tbs} {C fa da : Addr} {H H' : Hp} (e : Ext P w tb C H H') {v : V} {l : List Nat} (h : IntLst2 fa da H v l) : IntLst2 fa da H' v l := by
  obtain ⟨a, r, n1, n2, h⟩ := h
  exact ⟨a, r, n1, n2, e.lst h⟩
theorem IntLst2.il {fa da : Addr} {H : Hp} {v : V} {l : List Nat} (h : IntLst2 fa da H v l) : IntLst H v l := by
  obtain ⟨a, r, _, _, h⟩ := h
  exact ⟨a, r, h⟩
theorem IntLst2.upf {fa da : Addr} {H : Hp} {o : HO} {v : V} {l : List Nat} (h : IntLst2 fa da H v l) : IntLst2 fa da (upd H fa o) v l := by
  obtain ⟨a, r, n1, n2, h⟩ := h
  exact ⟨a, r, n1, n2, by rw [upd_ne n1]; exact h⟩
theorem IntLst2.upd_ {fa da : Addr} {H : Hp} {o : HO} {v : V} {l : List Nat} (h : IntLst2 fa da H v l) : IntLst2 fa da (upd H da o) v l := by
  obtain ⟨a, r, n1, n2, h⟩ := h
  exact ⟨a, r, n1, n2, by rw [upd_ne n2]; exact h⟩
/-- what is found, what is left to do -/
structure SbI (P : Program) (w : World) (tb : Tbs) (C : Addr) (H0 H : Hp) (fa da : Addr) (fv dv : List V) (Ss Ts : List (List Nat)) : Prop where
  e : Ext P w tb C H0 H
  f : H fa = some (.lst fv)
  fp : Paired (IntLst2 fa da H) fv Ss
  d : H da = some (.lst dv)
  dp : Paired (IntLst2 fa da H) dv Ts
  nf : Nw H0 fa
  nd : Nw H0 da
  ne : fa ≠ da
section
variable {P : Program} {w : World} {tb : Tbs} {C : Addr} {H0 H H' : Hp} {fa da : Addr} {fv dv : List V} {Ss Ts : List (List Nat)} {v : V} {S : List Nat}
theorem SbI.ext (h : SbI P w tb C H0 H fa da fv dv Ss Ts) (e : Ext P w tb C H H') : SbI P w tb C H0 H' fa da fv dv Ss Ts :=
  ⟨h.e.trans e, e.lst h.f, Paired.mapP h.fp fun _ _ z => z.ext e, e.lst h.d, Paired.mapP h.dp fun _ _ z => z.ext e, h.nf, h.nd, h.ne⟩
theorem SbI.pop (h : SbI P w tb C H0 H fa da fv (dv ++ [v]) Ss (Ts ++ [S])) : SbI P w tb C H0 (upd H da (.lst dv)) fa da fv dv Ss Ts := by
  have hp := paired_take h.dp Ts.length
  have hl := paired_len h.dp
  simp at hl
  rw [List.take_left, ← hl, List.take_left] at hp
  exact ⟨h.e.mut h.nd h.d rfl, by rw [upd_ne h.ne]; exact h.f, Paired.mapP h.fp fun _ _ z => z.upd_, upd_same, Paired.mapP hp fun _ _ z => z.upd_, h.nf, h.nd, h.ne⟩
theorem SbI.push (h : SbI P w tb C H0 H fa da fv dv Ss Ts) (hv : IntLst2 fa da H v S) : (upd H fa (.lst (fv ++ [v]))) da = some (.lst dv) ∧ SbI P w tb C H0 (upd (upd H fa (.lst (fv ++ [v]))) da (.lst (dv ++ [v]))) fa da (fv ++ [v]) (dv ++ [v]) (Ss ++ [S]) (Ts ++ [S]) := by
  have h1 : (upd H fa (.lst (fv ++ [v]))) da = some (.lst dv) := by rw [upd_ne h.ne.symm]; exact h.d
  refine ⟨h1, (h.e.mut h.nf h.f rfl).mut h.nd h1 rfl, by rw [upd_ne h.ne, upd_same], ?_, upd_same, ?_, h.nf, h.nd, h.ne⟩
  · exact paired_app (Paired.mapP h.fp fun _ _ z => z.upf.upd_) (.cons hv.upf.upd_ .nil)
  · exact paired_app (Paired.mapP h.dp fun _ _ z => z.upf.upd_) (.cons hv.upf.upd_ .nil)
end
theorem nvs_int (l : List Nat) : nvs l = (l.map fun n : Nat => (n : Int)).map V.int := by
  unfold nvs
  rw [List.map_map] <;> rfl
theorem mem_int {l : List Nat} {z : Nat} : ((z : Nat) : Int) ∈ (l.map fun n : Nat => (n : Int)) ↔ z ∈ l := by
  rw [List.mem_map]
  constructor
  · rintro ⟨a, h, e⟩
    have : a = z := by omega
    rw [← this]
    exact h
  · exact fun h => ⟨z, h, rfl⟩
theorem sorted_nat {ns : List Int} {M : List Nat} (asc : ns.Pairwise (· < ·)) (h : ∀ k : Int, k ∈ ns ↔ decide (k ∈ M.map fun n : Nat => (n : Int)) = true) : ∃ L : List Nat, ns.map V.int = nvs L ∧ L.Pairwise (· < ·) ∧ ∀ z, z ∈ L ↔ z ∈ M := by
  have hn : ∀ k ∈ ns, ∃ z : Nat, k = (z : Int) ∧ z ∈ M := fun k hk => by
    obtain ⟨z, hz, e⟩ := List.mem_map.mp (of_decide_eq_true ((h k).mp hk))
    exact ⟨z, e.symm, hz⟩
  refine ⟨ns.map Int.toNat, ?_, ?_, fun z => ?_⟩
  · unfold nvs
    rw [List.map_map]
    refine List.map_congr_left fun k hk => ?_
    obtain ⟨z, rfl, _⟩ := hn k hk
    rfl
  · rw [List.pairwise_map]
    refine List.Pairwise.imp_of_mem (fun {a b} ha hb hab => ?_) asc
    obtain ⟨z, rfl, _⟩ := hn a ha
    obtain ⟨y, rfl, _⟩ := hn b hb
    simp at hab ⊢
    exact hab
  · rw [List.mem_map]
    constructor
    · rintro ⟨k, hk, rfl⟩
      obtain ⟨z, rfl, hz⟩ := hn k hk
      exact hz
    · intro hz
      exact ⟨(z : Int), (h _).mpr (decide_eq_true (mem_int.mpr hz)), rfl⟩
theorem dp_lL {K : PySem.W.Frag} {H : Hp} {a : Addr} {vs : List V} {Ts : List (List Nat)} (h : SqL K H a vs) (p : Paired (IntLst H) vs Ts) : Dp K H (.ref a) (.list (Ts.map dL)) := .lst h (dp_all (fun _ _ ⟨_, e, z⟩ => by subst e; exact dp_lst (SqL.of z)) p)
theorem lL_eqv (Ts : List (List Nat)) : PyData.eqv (.list (Ts.map dL)) (.list []) = decide (Ts = []) := by
  cases Ts with
  | nil => rfl
  | cons a l => rfl
theorem setO_new_ {P : Program} {w : World} {tb : Tbs} {C p : Addr} {H : Hp} {f : Int → Bool} {n : Nat} (h : H p = none) : Ext P w tb C H (upd H p (SetO w p f n)) := Ext.new h fun _ _ _ _ _ z => by unfold SetO at z; cases z
section
variable {P : Program} {w : World} {K : PySem.W.Frag} {mg : Str → Option Value} {base : Heap} {tb : Tbs}
def spSubs (P : Program) (w : World) (tb : Tbs) (K : PySem.W.Frag) : Sp := fun vs H Q _ => ∃ (ta : Addr) (T : Tab) (n k : Nat), vs = [.ref ta] ∧ TabLL H ta (prodT T n) ∧ Good T n k ∧ n ≤ 6 ∧
  ∀ H' p Ss, Ext P w tb (CM K) H H' → TabLL H' p Ss → Ss.Nodup → (∀ S ∈ Ss, ClS T n S) → (∀ f : Nat → Prop, f 0 → (∀ x, f x → x < n) → (∀ a b, f a → f b → f (mul T a b)) → ∃ S ∈ Ss, ∀ x, x ∈ S ↔ f x) → Q (.ref p) H'
theorem sc_d_law_submonoids : FnScope ["_law_table", "_law_found", "_law_todo", "_law_inner", "_law_number", "_law_more", "_law_turn", "_law_one_here", "_law_later", "_law_other", "_law_far"] ["_law_table"] d_law_submonoids.scope := ⟨rfl, rfl, rfl, by decide +kernel, rfl, by decide +kernel, by decide +kernel⟩
theorem go_law_submonoids (T : Txt K mg) : Go P w K mg base "_law_submonoids" ["_law_table"] 1 (spSubs P w tb K) := by
  obtain ⟨fd, F⟩ := T.fn 52
  refine ⟨_, fd, T.g_law_submonoids, F.kp, F.bindsN (fun _ _ _ _ _ _ us hl => match us, hl with | [_], _ => rfl), okN F sc_d_law_submonoids (fun vs H Q E h => by
    obtain ⟨_, _, _, _, rfl, _⟩ := h
    rfl) (fun cdv A outer s H vs Q E rm h => ?_)⟩
  obtain ⟨ta, T', n, k, rfl, hta, hG, hn6, q⟩ := h
  refine ⟨_, (pss_cons (ps_par (i := 1) (j := 2) (by rfl) sc_d_law_submonoids.nd rfl rfl (by decide) rfl rfl (pa_cons (pe_lst (pa_cons (pe_lst (pa_cons pe_int pa_nil)) pa_nil)) (pa_cons (pe_lst (pa_cons (pe_lst (pa_cons pe_int pa_nil)) pa_nil)) pa_nil)) (by rfl))
      (pss_cons (ps_while PassesOwn.never (pt_cmpR (op_neD rm.units) (pv 2) (pe_lst pa_nil) (nomark _)) (pss_cons (ps_set (i := 3) sc_d_law_submonoids.nd rfl (Or.inl rfl) (pe_bm0 PySem.F.plainAttrs_list PySem.F.slot_list_pop PySem.F.type_list_pop mt_pop (pv 2)))
      (pss_one (ps_for PassesOwn.never rfl (pi_range1 rfl T.n_range (pa_cons (pe_callB call_len_seq (by rfl) T.n_len boot_len (pa_cons (pv 0) pa_nil)) pa_nil)) (pg_name (i := 4) sc_d_law_submonoids.nd rfl (Or.inl rfl))
      (pss_one (ps_if (pt_cmpR (op_notInD (hu65_of rm)) (pv 4) (pv 3) (by first | rfl | with_unfolding_all rfl)) (pss_cons (ps_set (i := 5) sc_d_law_submonoids.nd rfl (Or.inr rfl) (pe_op op_cat (pv 3) (pe_lst (pa_cons (pv 4) pa_nil))))
      (pss_cons (ps_for PassesOwn.never rfl (pi_range1 rfl T.n_range (pa_cons (pe_callB call_len_seq (by rfl) T.n_len boot_len (pa_cons (pv 0) pa_nil)) pa_nil)) (pg_name (i := 6) sc_d_law_submonoids.nd rfl (Or.inl rfl))
      (pss_one (ps_for PassesOwn.never rfl (pi_list (pe_callTy call_list_of (by rfl) T.n_list boot_list (pa_cons (pv 5) pa_nil))) (pg_name (i := 7) sc_d_law_submonoids.nd rfl (Or.inr rfl))
      (pss_cons (ps_set (i := 8) sc_d_law_submonoids.nd rfl (Or.inl rfl) (pe_callB (cr_sortedSetw (w := w) rfl rfl) (by rfl) T.n_sorted boot_sorted (pa_cons (pe_callTy (cr_setLw (w := w) rfl rfl) (by rfl) T.n_set boot_set (pa_cons (pe_lc (own := [("_law_other", 9)]) (g := gName 9) rfl sc_d_law_submonoids.nd (pi_list (pv 5)) (blkOk_by (N := ["_law_table", "_law_found", "_law_todo", "_law_inner", "_law_number", "_law_more", "_law_turn", "_law_one_here", "_law_later", "_law_other", "_law_far"]) (sc := d_law_submonoids.scope) (by decide +kernel)) (fun _ _ _ _ _ => (pg_name (i := 9) sc_d_law_submonoids.nd rfl (Or.inl rfl))) (fun _ _ _ _ _ => pts_nil) (fun _ _ _ _ _ => pe_c (pe_ix ix_list (pe_ix ix_list (pv 0) (pv 7) (fun _ _ => rfl)) (pv 9) (fun _ _ => rfl)))) pa_nil)) pa_nil)))
      (pss_one (ps_expr (pe_bm PySem.F.plainAttrs_list PySem.F.slot_list_extend PySem.F.type_list_extend mt_extend (pv 5) (pa_cons (pe_lc (own := [("_law_far", 10)]) (g := gName 10) rfl sc_d_law_submonoids.nd (pi_list (pv 8)) (blkOk_by (N := ["_law_table", "_law_found", "_law_todo", "_law_inner", "_law_number", "_law_more", "_law_turn", "_law_one_here", "_law_later", "_law_other", "_law_far"]) (sc := d_law_submonoids.scope) (by decide +kernel)) (fun _ _ _ _ _ => (pg_name (i := 10) sc_d_law_submonoids.nd rfl (Or.inl rfl))) (fun _ _ _ _ _ => (pts_one (pt_c (pt_cmpR (op_notInD (hu65_of rm)) (pv 10) (pv 5) (by first | rfl | with_unfolding_all rfl))))) (fun _ _ _ _ _ => pe_c (pv 10))) pa_nil))))))))
      (pss_cons (ps_set (i := 5) sc_d_law_submonoids.nd rfl (Or.inr rfl) (pe_callB (cr_sortedSetw (w := w) rfl rfl) (by rfl) T.n_sorted boot_sorted (pa_cons (pe_callTy (cr_setLw (w := w) rfl rfl) (by rfl) T.n_set boot_set (pa_cons (pv 5) pa_nil)) pa_nil)))
      (pss_one (ps_if (PW.pt (pw_and (pt_cmpR (op_notInD (hu65_of rm)) (pv 5) (pv 1) (by first | rfl | with_unfolding_all rfl)) (pw_and1 (pt_cmpR (op_lt) (pe_callB call_len_seq (by rfl) T.n_len boot_len (pa_cons (pv 1) pa_nil)) pe_int (nomark _))))) (pss_cons (ps_expr (pe_bm PySem.F.plainAttrs_list PySem.F.slot_list_append PySem.F.type_list_append mt_append (pv 1) (pa_cons (pv 5) pa_nil)))
      (pss_one (ps_expr (pe_bm PySem.F.plainAttrs_list PySem.F.slot_list_append PySem.F.type_list_append mt_append (pv 2) (pa_cons (pv 5) pa_nil))))) pss_nil))))) pss_nil))))))
      (pss_one (ps_ret (pv 1))))), ?_⟩
  have z1 := hG.form.n1
  obtain ⟨tvs, htv, htp⟩ := id hta
  have htl : tvs.length = n := by rw [paired_len htp]; unfold prodT; simp
  refine ⟨(by show 1 ≤ sizeLine; decide), fun a1 ha1 => ⟨(by show 1 ≤ sizeLine; decide), fun fa hfa => ⟨(by show 1 ≤ sizeLine; decide), fun a2 ha2 => ⟨(by show 1 ≤ sizeLine; decide), fun da hda => ⟨_, _, rfl, ?_⟩⟩⟩⟩⟩
  have e1 := Ext.new (P := P) (w := w) (tb := tb) (C := CM K) (o := .lst [.int 0]) ha1
  have e2 := Ext.new (P := P) (w := w) (tb := tb) (C := CM K) (o := .lst [.ref a1]) hfa
  have e3 := Ext.new (P := P) (w := w) (tb := tb) (C := CM K) (o := .lst [.int 0]) ha2
  have e4 := Ext.new (P := P) (w := w) (tb := tb) (C := CM K) (o := .lst [.ref a2]) hda
  have I0 : SbI P w tb (CM K) H (upd (upd (upd (upd H a1 (.lst [.int 0])) fa (.lst [.ref a1])) a2 (.lst [.int 0])) da (.lst [.ref a2])) fa da [.ref a1] [.ref a2] [[0]] [[0]] := by
    refine ⟨((e1.trans e2).trans e3).trans e4, (e3.trans e4).lst upd_same, .cons ⟨a1, rfl, ?_, ?_, ((e2.trans e3).trans e4).lst upd_same⟩ .nil, upd_same, .cons ⟨a2, rfl, ?_, ?_, e4.lst upd_same⟩ .nil, e1.nw hfa, ((e1.trans e2).trans e3).nw hda, ?_⟩
    · exact ne_of_none upd_same hfa
    · exact ne_of_none ((e2.trans e3).lst upd_same) hda
    · exact (ne_of_none upd_same ha2).symm
    · exact ne_of_none upd_same hda
    · exact ne_of_none (e3.lst upd_same) hda
  have cz := cls_zero hG
  refine ⟨fun m σ H' => ∃ Ss Ts fv dv y3 y4 y5 y6 y7 y8, σ = [some (.ref ta), some (.ref fa), some (.ref da), y3, y4, y5, y6, y7, y8, none, none] ∧ SbI P w tb (CM K) H H' fa da fv dv Ss Ts ∧ Ss.Nodup ∧ (∀ S ∈ Ss, ClS T' n S) ∧ [0] ∈ Ss ∧ (∀ S ∈ Ts, S ∈ Ss) ∧ (∀ S ∈ Ss, S ∈ Ts ∨ ∀ x, x < n → x ∉ S → ∃ S' ∈ Ss, ClosOf T' S x S') ∧ m = 2 * (40 - Ss.length) + Ts.length ∧ m ≤ 79,
    ⟨79, [[0]], [[0]], _, _, none, none, none, none, none, none, rfl, I0, by simp, fun S h => by rw [List.mem_singleton.mp h]; exact cz, by simp, fun S h => h, fun S h => .inl h, rfl, Nat.le_refl _⟩, fun m σ H' hW => ?_⟩
  obtain ⟨Ss, Ts, fv, dv, y3, y4, y5, y6, y7, y8, rfl, I, hnd, hcl, h0, hsub, hdone, hm, hm79⟩ := hW
  have h32 := cls_count hn6 hnd hcl
  refine ⟨_, rfl, (by show 0 ≤ sizeLine; decide), fun ea hea => ?_⟩
  have ee := Ext.new (P := P) (w := w) (tb := tb) (C := CM K) (o := .lst []) hea
  have I1 := I.ext ee
  refine ⟨.list (Ts.map dL), .list [], dp_lL (SqL.of I1.d) (Paired.mapP I1.dp fun _ _ z => z.il), .lst (SqL.of upd_same) .nil, lL_shaped _, by rfl, _, rfl, ?_⟩
  rw [lL_eqv]
  refine ite2 (fun hne => ?_) fun hemp => ?_
  · have hne' : Ts ≠ [] := by simpa using hne
    obtain ⟨T1, S, rfl⟩ : ∃ r' y, Ts = r' ++ [y] := ⟨Ts.dropLast, Ts.getLast hne', (List.dropLast_concat_getLast hne').symm⟩
    have hdl := paired_len I1.dp
    have hdne : dv ≠ [] := fun z => by rw [z] at hdl; simp at hdl
    obtain ⟨d1, v1, rfl⟩ : ∃ r' y, dv = r' ++ [y] := ⟨dv.dropLast, dv.getLast hdne, (List.dropLast_concat_getLast hdne).symm⟩
    simp at hdl
    have I2 := I1.pop
    have hSv : IntLst2 fa da (upd (upd H' ea (.lst [])) da (.lst d1)) v1 S := by
      obtain ⟨v, g1, g2⟩ := paired_get I1.dp (i := T1.length) (y := S) (by simp)
      rw [← hdl] at g1
      simp at g1
      subst g1
      exact g2.upd_
    obtain ⟨ib, rfl, nb1, nb2, hib⟩ := hSv
    have hSs : S ∈ Ss := hsub S (by simp)
    have cS := hcl S hSs
    refine ⟨fun σ' H'' => ∃ m', m' < m ∧ (∃ Ss Ts fv dv y3 y4 y5 y6 y7 y8, σ' = [some (.ref ta), some (.ref fa), some (.ref da), y3, y4, y5, y6, y7, y8, none, none] ∧ SbI P w tb (CM K) H H'' fa da fv dv Ss Ts ∧ Ss.Nodup ∧ (∀ S ∈ Ss, ClS T' n S) ∧ [0] ∈ Ss ∧ (∀ S ∈ Ts, S ∈ Ss) ∧ (∀ S ∈ Ss, S ∈ Ts ∨ ∀ x, x < n → x ∉ S → ∃ S' ∈ Ss, ClosOf T' S x S') ∧ m' = 2 * (40 - Ss.length) + Ts.length ∧ m' ≤ 79), fun σ' H'' h => h, ?_⟩
    refine ⟨_, rfl, .inl ⟨rfl, _, SqL.of I1.d⟩, da, _, .ref ib, rfl, rfl, I1.d, by simp, ?_⟩
    rw [List.dropLast_concat]
    have e5 := I2.e
    refine ⟨_, rfl, ta, tvs, rfl, .inl (SqL.of (e5.lst htv)), (tvs.length : Int), rfl, by omega, by omega, for_it walk_range (fun i σ H' => ∃ Ss' Ts' fv dv y4 y5 y6 y7 y8, σ = [some (.ref ta), some (.ref fa), some (.ref da), some (.ref ib), y4, y5, y6, y7, y8, none, none] ∧ SbI P w tb (CM K) H H' fa da fv dv Ss' Ts' ∧ H' ib = some (.lst (nvs S)) ∧ Ss'.Nodup ∧ (∀ S ∈ Ss', ClS T' n S) ∧ [0] ∈ Ss' ∧ S ∈ Ss' ∧ (∀ S ∈ Ts', S ∈ Ss') ∧ (∀ S0 ∈ Ss', S0 ≠ S → S0 ∈ Ts' ∨ ∀ x, x < n → x ∉ S0 → ∃ S' ∈ Ss', ClosOf T' S0 x S') ∧ (∀ x, x < i → x ∉ S → ∃ S' ∈ Ss', ClosOf T' S x S') ∧ 2 * (40 - Ss'.length) + Ts'.length + 1 ≤ m)
      ⟨Ss, T1, fv, d1, y4, y5, y6, y7, y8, rfl, I2, hib, hnd, hcl, h0, hSs, fun S h => hsub S (by simp [h]), fun S0 h hn => (hdone S0 h).elim (fun z => .inl ((List.mem_append.mp z).elim id fun z => absurd (List.mem_singleton.mp z) hn)) .inr, (fun x hx => by omega), by simp at hm; omega⟩ (fun _ _ _ _ _ => trivial)
      (fun i y σ H6 H7 hi ⟨Ss', Ts', fv', dv', y4, y5, y6, y7, y8, es, J, hib6, hnd', hcl', h0', hSS', hsub', hdone', hnow, hmm⟩ hy => ?_) fun σ H6 ⟨Ss', Ts', fv', dv', y4, y5, y6, y7, y8, es, J, hib6, hnd', hcl', h0', hSS', hsub', hdone', hnow, hmm⟩ => ?_⟩
    · obtain ⟨rfl, rfl⟩ := hy
      subst es
      have hi' : i < n := by omega
      have ei : (V.int (0 + (i : Int))) = nv i := by show _ = V.int (i : Int); rw [Int.zero_add]
      have h32' := cls_count hn6 hnd' hcl'
      refine ⟨_, rfl, _, rfl, .int (i : Int), dI S, by show Dp _ _ (V.int (0 + (i : Int))) _; rw [Int.zero_add]; exact .int _, dp_lst (SqL.of hib6), rfl, dL_shaped _, _, rfl, ?_⟩
      rw [any_dI]
      refine ite2 (fun hnin => ?_) fun hin => ?_
      · have hnin' : i ∉ S := by simpa using hnin
        have hSl : S.length ≤ n := by
          have := ndLe (asc_nodup cS.asc) (m := List.range n) fun x hx => List.mem_range.mpr (cS.lt x hx)
          simpa using this
        refine ⟨_, rfl, _, rfl, (by show 1 ≤ sizeLine; decide), fun l1 hl1 => ?_⟩
        have f1 := Ext.new (P := P) (w := w) (tb := tb) (C := CM K) (o := .lst [V.int (0 + (i : Int))]) hl1
        refine ⟨ib, l1, _, _, rfl, rfl, f1.lst hib6, upd_same, Nat.le_of_lt (line_of (by rw [nvs_len]; simp; omega)), fun D hD => ?_⟩
        have eM : nvs S ++ [V.int (0 + (i : Int))] = nvs (S ++ [i]) := by rw [Int.zero_add]; exact nvs_snoc S i
        rw [eM]
        have f2 := f1.trans (Ext.new (P := P) (w := w) (tb := tb) (C := CM K) (o := .lst (nvs (S ++ [i]))) hD)
        have nD : Nw H7 D := f1.nw hD
        have hDm : ∀ {b zs}, H7 b = some (.lst zs) → b ≠ D := fun h => ne_of_none (f1.lst h) hD
        have hta7 := J.e
        have g0 := Gr.start cS hi' hnin'
        refine ⟨_, rfl, ta, tvs, rfl, .inl (SqL.of ((J.e.trans f2).lst htv)), (tvs.length : Int), rfl, by omega, by omega, for_it walk_range (fun t σ H' => ∃ M y6 y7 y8, σ = [some (.ref ta), some (.ref fa), some (.ref da), some (.ref ib), some (V.int (0 + (i : Int))), some (.ref D), y6, y7, y8, none, none] ∧ Ext P w tb (CM K) H7 H' ∧ H' D = some (.lst (nvs M)) ∧ Gr T' n S i M ∧ (Cl T' M ∨ t < M.length))
          ⟨S ++ [i], y6, y7, y8, rfl, f2, upd_same, g0, .inr (by simp)⟩ (fun _ _ _ _ _ => trivial) (fun t y σ H' H8 ht ⟨M0, y6, y7, y8, es, f3, hM0, g3, c3⟩ hy => ?_) fun σ H' ⟨M, y6, y7, y8, es, f3, hM, g3, c3⟩ => ?_⟩
        · obtain ⟨rfl, rfl⟩ := hy
          subst es
          have hM0l : M0.length ≤ n := by
            have := ndLe g3.nd (m := List.range n) fun x hx => List.mem_range.mpr (g3.lt x hx)
            simpa using this
          refine ⟨_, rfl, D, _, rfl, .inl (SqL.of hM0), fun lc hlc => ?_⟩
          have f4 := Ext.new (P := P) (w := w) (tb := tb) (C := CM K) (o := .lst (nvs M0)) hlc
          have hlD : lc ≠ D := fun z => by rw [z, hM0] at hlc; cases hlc
          refine ⟨lc, rfl, ⟨_, SqL.of upd_same⟩, for_it (walk_list (xs := nvs M0)) (fun j σ H' => ∃ M y7 y8, σ = [some (.ref ta), some (.ref fa), some (.ref da), some (.ref ib), some (V.int (0 + (i : Int))), some (.ref D), some (V.int (0 + (t : Int))), y7, y8, none, none] ∧ Ext P w tb (CM K) H7 H' ∧ H' D = some (.lst (nvs M)) ∧ H' lc = some (.lst (nvs M0)) ∧ Gi T' n S i M0 M j)
            ⟨M0, y7, y8, rfl, f3.trans f4, f4.lst hM0, upd_same, Gi.start g3⟩ (fun j σ H' _ ⟨_, _, _, _, _, _, h, _⟩ => SqL.of h) (fun j y σ H' H9 hj ⟨M, y7, y8, es, f5, hM, hlc5, gi⟩ hy => ?_) fun σ H' ⟨M, y7, y8, es, f5, hM, hlc5, gi⟩ => ?_⟩
          · obtain ⟨rfl, hx⟩ := hy
            subst es
            rw [nvs_get] at hx
            obtain ⟨a, ha, rfl⟩ := Option.map_eq_some_iff.mp hx
            have han := g3.lt a (List.mem_of_getElem? ha)
            have hMl : M.length ≤ n := by
              have := ndLe gi.g.nd (m := List.range n) fun x hx => List.mem_range.mpr (gi.g.lt x hx)
              simpa using this
            refine ⟨_, rfl, lc_l (P := P) (w := w) (tb := tb) (C := CM K) hM (fun _ i y H => y = nv (mul T' a (at_ M i))) (fun D => stab_val fun i => nv (mul T' a (at_ M i))) (by rw [nvs_len]; omega) (fun _ => ?_) (fun D5 j2 z5 H5 acc hz5 e5 hD5 hac Qk qk => ?_) (fun D5 H5 zs hD5 e5 hzs hl5 hr5 => ?_)⟩
            · rfl
            · rw [nvs_get] at hz5
              obtain ⟨b, hb, rfl⟩ := Option.map_eq_some_iff.mp hz5
              have hbn := gi.g.lt b (List.mem_of_getElem? hb)
              obtain ⟨r, r1, r2⟩ := prodT_get (T := T') han hbn
              obtain ⟨tv, tb0, r3, r4, r5⟩ := (hta.ext ((J.e.trans f5).trans e5)).row r1
              refine ⟨_, rfl, _, rfl, _, _, _, _, rfl, rfl, SqL.of r3, atI_nat r4, _, rfl, _, _, _, _, rfl, rfl, SqL.of r5, atI_nat (v := nv (mul T' a b)) (by rw [nvs_get, r2]; rfl), ?_⟩
              refine qk _ _ (.refl _) ?_
              rw [at_of hb]
            · have ezs : zs = nvs (M.map (mul T' a)) := by
                refine nvs_map (by rw [hl5, nvs_len]) fun i y p hy hp => ?_
                rw [hr5 i y hy, at_of hp]
              subst ezs
              rw [nvs_int] at hzs
              have e5' := e5
              refine ⟨D5, _, rfl, SqL.of hzs, by simp; omega, fun sa c hsa hc => ⟨sa, _, c, rfl, upd_same, by simp at hc; omega, fun ns' lp asc hmem hlen hlp => ?_⟩⟩
              obtain ⟨L, eL, L1, L2⟩ := sorted_nat asc hmem
              rw [eL]
              have e6 := e5.trans (setO_new_ (P := P) (w := w) (tb := tb) (C := CM K) (f := fun j => decide (j ∈ (M.map (mul T' a)).map fun n : Nat => (n : Int))) (n := c) hsa)
              have e7 := e6.trans (Ext.new (P := P) (w := w) (tb := tb) (C := CM K) (o := .lst (nvs L)) hlp)
              have hL10 : (upd (upd H5 sa (SetO w sa (fun j => decide (j ∈ (M.map (mul T' a)).map fun n : Nat => (n : Int))) c)) lp (.lst (nvs L))) lp = some (.lst (nvs L)) := upd_same
              generalize hHH : (upd (upd H5 sa (SetO w sa (fun j => decide (j ∈ (M.map (mul T' a)).map fun n : Nat => (n : Int))) c)) lp (.lst (nvs L))) = H10 at e7 hL10
              have hLn : L.length ≤ n := by
                have := ndLe (asc_nodup L1) (m := List.range n) fun x hx => by
                  obtain ⟨b, hb, rfl⟩ := List.mem_map.mp ((L2 x).mp hx)
                  exact List.mem_range.mpr (hG.mul_lt han (gi.g.lt b hb))
                simpa using this
              have hM10 := e7.lst hM
              refine ⟨_, rfl, .inl ⟨rfl, _, SqL.of hM10⟩, _, rfl, lp, rfl, ⟨_, SqL.of hL10⟩, fun D6 hD6 => ?_⟩
              have nD6 : Nw H10 D6 := .of hD6
              refine lc_it (walk_list (xs := nvs L)) (fun i2 H' => Ext P w tb (CM K) H10 H' ∧ H' D6 = some (.lst (nvs ((L.take i2).filter fun z => decide (z ∉ M))))) ⟨.new hD6, upd_same⟩ (fun i2 H' _ h => SqL.of (h.1.lst hL10)) (fun i2 y H' H11 hi2 ⟨e8, h8⟩ hy => ?_) fun H' ⟨e8, h8⟩ => ?_
              · obtain ⟨rfl, hx⟩ := hy
                rw [nvs_get] at hx
                obtain ⟨z, hz, rfl⟩ := Option.map_eq_some_iff.mp hx
                refine ⟨rfl, _, rfl, _, rfl, .int (z : Int), dI M, .int _, dp_lst (SqL.of (e8.lst hM10)), rfl, dL_shaped _, _, rfl, ?_⟩
                rw [any_dI]
                have htk : L.take (i2 + 1) = L.take i2 ++ [z] := take_snoc hz
                refine ite2 (fun hn => ?_) fun hn => ?_
                · have hn' : z ∉ M := by simpa using hn
                  refine ⟨_, rfl, _, h8, line_of ?_, e8.mut nD6 h8 rfl, ?_⟩
                  · rw [nvs_len]
                    have h1 := List.length_filter_le (fun z => decide (z ∉ M)) (L.take i2)
                    rw [List.length_take] at h1
                    omega
                  · rw [upd_same, nvs_snoc, htk, List.filter_append, List.filter_cons, if_pos (decide_eq_true hn')]
                    rfl
                · have hn' : z ∈ M := by simpa using hn
                  refine ⟨e8, ?_⟩
                  rw [htk, List.filter_append, List.filter_cons, if_neg (by simpa using hn')]
                  simpa using h8
              · have htl2 : L.take (nvs L).length = L := List.take_of_length_le (by rw [nvs_len]; exact Nat.le_refl _)
                rw [htl2] at h8
                have hfl := List.length_filter_le (fun z => decide (z ∉ M)) L
                have hM11 := e8.lst hM10
                have hlc11 := (e7.trans e8).lst hlc5
                have e9 := f5.trans (e7.trans e8)
                refine ⟨D, D6, _, _, rfl, rfl, hM11, h8, Nat.le_of_lt (line_of (by rw [nvs_len, nvs_len]; omega)), ?_⟩
                have gi2 := gi.step hG ha (asc_nodup L1) fun z => by
                  rw [L2 z, List.mem_map]
                refine ⟨M ++ L.filter (fun z => decide (z ∉ M)), _, _, rfl, e9.mut nD hM11 rfl, ?_, by rw [upd_ne hlD]; exact hlc11, gi2⟩
                rw [upd_same]
                unfold nvs
                rw [List.map_append]
          · subst es
            rw [nvs_len] at gi
            obtain ⟨t1, t2⟩ := gi.turn c3
            exact ⟨M, _, _, _, rfl, f5, hM, t1, t2⟩
        · subst es
          rw [htl] at c3
          have hMl : M.length ≤ n := by
            have := ndLe g3.nd (m := List.range n) fun x hx => List.mem_range.mpr (g3.lt x hx)
            simpa using this
          rw [nvs_int] at hM
          refine ⟨_, rfl, D, _, rfl, SqL.of hM, by simp; omega, fun sa c hsa hc => ⟨sa, _, c, rfl, upd_same, by simp at hc; omega, fun ns' lp asc hmem hlen hlp => ?_⟩⟩
          obtain ⟨L, eL, L1, L2⟩ := sorted_nat asc hmem
          rw [eL]
          obtain ⟨cL, oL⟩ := g3.end_ cS c3 L1 L2
          have e6 := f3.trans (setO_new_ (P := P) (w := w) (tb := tb) (C := CM K) (f := fun j => decide (j ∈ M.map fun n : Nat => (n : Int))) (n := c) hsa)
          have e7 := e6.trans (Ext.new (P := P) (w := w) (tb := tb) (C := CM K) (o := .lst (nvs L)) hlp)
          have hL10 : (upd (upd H' sa (SetO w sa (fun j => decide (j ∈ M.map fun n : Nat => (n : Int))) c)) lp (.lst (nvs L))) lp = some (.lst (nvs L)) := upd_same
          have nlp : lp ≠ fa ∧ lp ≠ da := ⟨(ne_of_none (e6.lst J.f) hlp).symm, (ne_of_none (e6.lst J.d) hlp).symm⟩
          generalize hHH : (upd (upd H' sa (SetO w sa (fun j => decide (j ∈ M.map fun n : Nat => (n : Int))) c)) lp (.lst (nvs L))) = H10 at e7 hL10
          have J2 := J.ext e7
          have hfl : fv'.length = Ss'.length := paired_len J2.fp
          have hdl2 : dv'.length = Ts'.length := paired_len J2.dp
          have hib10 := e7.lst hib6
          refine ⟨_, rfl, _, rfl, dL L, Ss'.map dL, dp_lst (SqL.of hL10), dp_lL (SqL.of J2.f) (Paired.mapP J2.fp fun _ _ z => z.il), dL_shaped _, lL_shaped _, _, rfl, ?_⟩
          rw [any_dL]
          refine ite2 (fun hn => ?_) fun hn => ?_
          · have hn' : L ∉ Ss' := by simpa using hn
            refine ⟨_, rfl, fa, fv', rfl, .inl (SqL.of J2.f), _, _, rfl, rfl, _, rfl, iteT (decide_eq_true (by show (fv'.length : Int) < 60; omega)) ?_⟩
            obtain ⟨p1, J3⟩ := J2.push (v := .ref lp) (S := L) ⟨lp, rfl, nlp.1, nlp.2, hL10⟩
            refine ⟨_, rfl, .inl ⟨rfl, _, SqL.of J2.f⟩, _, rfl, fa, _, _, rfl, rfl, J2.f, line_of (by omega), ?_⟩
            refine ⟨_, rfl, .inl ⟨rfl, _, SqL.of p1⟩, _, rfl, da, _, _, rfl, rfl, p1, line_of (by omega), ?_⟩
            refine ⟨Ss' ++ [L], Ts' ++ [L], _, _, _, _, _, _, _, rfl, J3, by rw [upd_ne nb2, upd_ne nb1]; exact hib10, nodup_snoc hnd' hn', fun S1 h => ?_, List.mem_append_left _ h0', List.mem_append_left _ hSS', fun S1 h => ?_, fun S0 h hne0 => ?_, fun x hx hxS => ?_, ?_⟩
            · rcases List.mem_append.mp h with h | h
              · exact hcl' S1 h
              · rw [List.mem_singleton.mp h]; exact cL
            · rcases List.mem_append.mp h with h | h
              · exact List.mem_append_left _ (hsub' S1 h)
              · exact List.mem_append_right _ h
            · rcases List.mem_append.mp h with h | h
              · rcases hdone' S0 h hne0 with z | z
                · exact .inl (List.mem_append_left _ z)
                · refine .inr fun x hx hxS => ?_
                  obtain ⟨S', h1, h2⟩ := z x hx hxS
                  exact ⟨S', List.mem_append_left _ h1, h2⟩
              · exact .inl (List.mem_append_right _ h)
            · by_cases hxi : x < i
              · obtain ⟨S', h1, h2⟩ := hnow x hxi hxS
                exact ⟨S', List.mem_append_left _ h1, h2⟩
              · have : x = i := by omega
                subst this
                exact ⟨L, List.mem_append_right _ (by simp), oL⟩
            · simp only [List.length_append, List.length_singleton]
              omega
          · have hn' : L ∈ Ss' := by simpa using hn
            refine iteF rfl ?_
            refine ⟨Ss', Ts', fv', dv', _, _, _, _, _, rfl, J2, hib10, hnd', hcl', h0', hSS', hsub', hdone', fun x hx hxS => ?_, hmm⟩
            by_cases hxi : x < i
            · exact hnow x hxi hxS
            · have : x = i := by omega
              subst this
              exact ⟨L, hn', oL⟩
      · have hin' : i ∈ S := by simpa using hin
        refine ⟨Ss', Ts', fv', dv', _, _, _, _, _, rfl, J, hib6, hnd', hcl', h0', hSS', hsub', hdone', fun x hx hxS => ?_, hmm⟩
        by_cases hxi : x < i
        · exact hnow x hxi hxS
        · have : x = i := by omega
          subst this
          exact absurd hin' hxS
    · subst es
      rw [htl] at hnow
      exact ⟨_, by omega, Ss', Ts', fv', dv', _, _, _, _, _, _, rfl, J, hnd', hcl', h0', hsub', fun S0 h => by
        by_cases e : S0 = S
        · subst e
          exact .inr hnow
        · exact hdone' S0 h e, rfl, by omega⟩
  · have hemp' : Ts = [] := by simpa using hemp
    subst hemp'
    refine ⟨_, rfl, q _ fa Ss I1.e ⟨fv, I1.f, Paired.mapP I1.fp fun _ _ z => z.il⟩ hnd hcl fun f f0 flt fm => cls_all h0 hcl (fun S hS x hx hxS => ?_) f0 flt fm⟩
    exact (hdone S hS).resolve_left (by simp) x hx hxS
end
end K95
set_option Elab.async false
set_option linter.all false
set_option maxRecDepth 100000
set_option maxHeartbeats 4000000
set_option autoImplicit false
namespace K95
open PySem PySem.Spec PyProof.Rows L2
section
variable {P : Program} {w : World} {K : PySem.W.Frag} {mg : Str → Option Value} {base : Heap} {tb : Tbs}
def spByParts (P : Program) (w : World) (K : PySem.W.Frag) : Sp := fun vs H Q _ => ∃ (m1 m2 ta : Addr) (A B : Tab) (n1 k1 n2 k2 : Nat), vs = [.ref m1, .ref m2, .ref ta] ∧ Okk (tbK K) (CM K) H ∧ MonAt P w (CM K) H m1 A ∧ MonAt P w (CM K) H m2 B ∧ Good A n1 k1 ∧ Good B n2 k2 ∧ n2 ≤ 6 ∧ k1 ≤ 3 ∧ TabLL H ta (prodT B n2) ∧
  ∀ H' b, Ext P w (tbK K) (CM K) H H' → (b = true ↔ ∃ row ∈ rowsL n2 k1, LedRow A B row) → Q (.bl b) H'
theorem sc_d_law_by_parts : FnScope ["_law_here", "_law_there", "_law_table", "_law_subs", "_law_inner", "_law_some", "_law_number", "_law_small", "_law_classes"] ["_law_here", "_law_there", "_law_table"] d_law_by_parts.scope := ⟨rfl, rfl, rfl, by decide +kernel, rfl, by decide +kernel, by decide +kernel⟩
theorem go_law_by_parts (T : Txt K mg) (hTB : ∀ p ∈ tfL, LamX.TabB base mg (He.cT K p).1 (He.cT K p).2): Go P w K mg base "_law_by_parts" ["_law_here", "_law_there", "_law_table"] 11 (spByParts P w K) := by
  obtain ⟨fd, F⟩ := T.fn 53
  obtain ⟨fd_size, b_size, G_size⟩ := go_size (P := P) (w := w) (base := base)  T
  obtain ⟨f_law_congruences, fd_law_congruences, m_law_congruences, k_law_congruences, b_law_congruences, G_law_congruences⟩ := go_law_congruences (P := P) (w := w) (base := base) (tb := tbK K) T
  obtain ⟨f_isomorphism, fd_isomorphism, m_isomorphism, k_isomorphism, b_isomorphism, G_isomorphism⟩ := go_isomorphism (P := P) (w := w) (base := base) (tb := tbK K) T
  obtain ⟨f_quotient, fd_quotient, m_quotient, k_quotient, b_quotient, G_quotient⟩ := go_quotient (P := P) (w := w) (base := base) (tb := tbK K) T
  obtain ⟨f_generated, fd_generated, m_generated, k_generated, b_generated, G_generated⟩ := go_generated (P := P) (w := w) (base := base)  T hTB
  obtain ⟨f_law_submonoids, fd_law_submonoids, m_law_submonoids, k_law_submonoids, b_law_submonoids, G_law_submonoids⟩ := go_law_submonoids (P := P) (w := w) (base := base) (tb := tbK K) T
  refine ⟨_, fd, T.g_law_by_parts, F.kp, F.bindsN (fun _ _ _ _ _ _ us hl => match us, hl with | [_, _, _], _ => rfl), okN F sc_d_law_by_parts (fun vs H Q E h => by
    obtain ⟨_, _, _, _, _, _, _, _, _, rfl, _⟩ := h
    rfl) (fun cdv A outer s H vs Q E rm h => ?_)⟩
  obtain ⟨m1, m2, ta, AA, BB, n1, k1, n2, k2, rfl, ok, hM1, hM2, G1, G2, hn6, hk3, hta, q⟩ := h
  refine ⟨_, (pss_cons (ps_set (i := 3) sc_d_law_by_parts.nd rfl (Or.inl rfl) (pe_call G_law_submonoids (rm.mono (by decide)) rfl m_law_submonoids k_law_submonoids b_law_submonoids .nil pass0 (pa_cons (pv 2) pa_nil)))
      (pss_cons (ps_for PassesOwn.never rfl (pi_list (pv 3)) (pg_name (i := 4) sc_d_law_by_parts.nd rfl (Or.inl rfl))
      (pss_cons (ps_setLc (i := 5) (own := [("_law_number", 6)]) (g := gName 6) rfl sc_d_law_by_parts.nd rfl rfl (sw_true rfl rfl rfl (by decide +kernel)) (pi_list (pv 4)) (blkOk_by (N := ["_law_here", "_law_there", "_law_table", "_law_subs", "_law_inner", "_law_some", "_law_number", "_law_small", "_law_classes"]) (sc := d_law_by_parts.scope) (by decide +kernel)) (fun _ _ _ _ _ => (pg_name (i := 6) sc_d_law_by_parts.nd rfl (Or.inl rfl))) (fun _ _ _ _ _ => (pts_one (pt_c (pt_cmpR (op_ne) (pv 6) pe_int (nomark _))))) (fun _ _ _ _ _ => pe_c (pv 6)))
      (pss_one (ps_if (PW.pt (pw_and (pt_cmpR (op_ge) (pe_callB call_len_seq (by rfl) T.n_len boot_len (pa_cons (pv 4) pa_nil)) (pe_meth0 (pv 0) T.cl T.m_size G_size (rm.mono (by decide)) b_size .nil pass0) (nomark _)) (pw_and (pt_cmpR (op_le) (pe_callB call_len_seq (by rfl) T.n_len boot_len (pa_cons (pv 5) pa_nil)) pe_int (nomark _)) (pw_and1 (pt_cmpR (op_lt) (pe_callB call_len_seq (by rfl) T.n_len boot_len (pa_cons (pv 3) pa_nil)) pe_int (nomark _)))))) (C8.pss_cut (ps_set (i := 7) sc_d_law_by_parts.nd rfl (Or.inl rfl) (pe_ix ix_tup (pe_call G_generated (rm.mono (by decide)) rfl m_generated k_generated b_generated .nil pass0 (pa_cons (pv 1) (pa_cons (pe_orT (pv 5) (pe_one (pe_lst (pa_cons pe_int pa_nil)))) pa_nil))) pe_int (fun _ _ => rfl)))
      (pss_one (ps_for PassesOwn.never rfl (pi_list (pe_call G_law_congruences (rm.mono (by decide)) rfl m_law_congruences k_law_congruences b_law_congruences .nil pass0 (pa_cons (pv 7) pa_nil))) (pg_name (i := 8) sc_d_law_by_parts.nd rfl (Or.inl rfl))
      (pss_one (ps_if (pt_cmpR (op_eq) (pe_lenSet' rfl T.n_len rfl T.n_set (pv 8)) (pe_meth0 (pv 0) T.cl T.m_size G_size (rm.mono (by decide)) b_size .nil pass0) (nomark _)) (pss_one (ps_if (pt_cmpR (op_notN) (pe_call G_isomorphism (rm.mono (by decide)) rfl m_isomorphism k_isomorphism b_isomorphism .nil pass0 (pa_cons (pv 0) (pa_cons (pe_ix ix_tup (pe_call G_quotient (rm.mono (by decide)) rfl m_quotient k_quotient b_quotient .nil pass0 (pa_cons (pv 7) (pa_cons (pv 8) pa_nil))) pe_int (fun _ _ => rfl)) pa_nil))) pe_non (nomark _)) (pss_one (ps_ret pe_bl)) pss_nil)) pss_nil))))) (pss_one (ps_if (pt_cmpR (op_ge) (pe_callB call_len_seq (by rfl) T.n_len boot_len (pa_cons (pv 4) pa_nil)) (pe_meth0 (pv 0) T.cl T.m_size G_size (rm.mono (by decide)) b_size .nil pass0) (nomark _)) (pss_one (ps_ret pe_non)) pss_nil))))))
      (pss_one (ps_ret pe_bl)))), ?_⟩
  have z1 := G1.form.n1
  have z2 := G2.form.n1
  have zk := G1.form.k1
  have l1 := G1.form.len
  refine ⟨_, rfl, ta, BB, n2, k2, rfl, hta, G2, hn6, fun H1 sa Ss e1 hSs hnd hcl hall => ?_⟩
  have h32 := cls_count hn6 hnd hcl
  obtain ⟨svs, hsv, hsp⟩ := id hSs
  have hsl : svs.length = Ss.length := paired_len hsp
  refine ⟨_, rfl, sa, rfl, ⟨_, SqL.of hsv⟩, for_it (walk_list (xs := svs)) (fun i σ H' => ∃ y4 y5 y7 y8, σ = [some (.ref m1), some (.ref m2), some (.ref ta), some (.ref sa), y4, y5, none, y7, y8] ∧ Ext P w (tbK K) (CM K) H1 H' ∧ ∀ (j : Nat) S, j < i → Ss[j]? = some S → ¬ ∃ row ∈ rowsL n2 k1, LedRow AA BB row ∧ ∀ x, x ∈ S ↔ Gen BB k1 row x)
    ⟨none, none, none, none, rfl, .refl _, fun j S hj => by omega⟩ (fun i σ H' _ ⟨_, _, _, _, _, e, _⟩ => SqL.of (e.lst hsv)) (fun i y σ H' H2 hi ⟨y4, y5, y7, y8, es, e2, hno⟩ hy => ?_) fun σ H' ⟨y4, y5, y7, y8, es, e2, hno⟩ => ?_⟩
  · obtain ⟨rfl, hx⟩ := hy
    subst es
    obtain ⟨S, hS, b, rfl, hb⟩ := paired_get' hsp hx
    have hSm := List.mem_of_getElem? hS
    have cS := hcl S hSm
    have hb2 := e2.lst hb
    have hSl : S.length ≤ n2 := by
      have := ndLe (asc_nodup cS.asc) (m := List.range n2) fun x hx => List.mem_range.mpr (cS.lt x hx)
      simpa using this
    have big : ∀ row ∈ rowsL n2 k1, LedRow AA BB row → (∀ x, x ∈ S ↔ Gen BB k1 row x) → n1 ≤ S.length := fun row hr L hg => led_size G1 (rowsL_mem.mp hr).1 L fun u hu => (hg _).mpr ⟨u, hu, rfl⟩
    have next : (¬ ∃ row ∈ rowsL n2 k1, LedRow AA BB row ∧ ∀ x, x ∈ S ↔ Gen BB k1 row x) → ∀ (j : Nat) S', j < i + 1 → Ss[j]? = some S' → ¬ ∃ row ∈ rowsL n2 k1, LedRow AA BB row ∧ ∀ x, x ∈ S' ↔ Gen BB k1 row x := fun hn j S' hj hS' => by
      by_cases hji : j < i
      · exact hno j S' hji hS'
      · have : j = i := by omega
        subst this
        rw [hS] at hS'
        cases hS'
        exact hn
    refine ⟨_, rfl, b, rfl, ⟨_, SqL.of hb2⟩, fun D hD => ?_⟩
    have nD : Nw H2 D := .of hD
    refine lc_it (walk_list (xs := nvs S)) (fun i2 H' => Ext P w (tbK K) (CM K) H2 H' ∧ H' D = some (.lst (nvs ((S.take i2).filter fun z => decide (z ≠ 0))))) ⟨.new hD, upd_same⟩ (fun i2 H' _ h => SqL.of (h.1.lst hb2)) (fun i2 y H' H3 hi2 ⟨e3, h3⟩ hy => ?_) fun H' ⟨e3, h3⟩ => ?_
    · obtain ⟨rfl, hx⟩ := hy
      rw [nvs_get] at hx
      obtain ⟨z, hz, rfl⟩ := Option.map_eq_some_iff.mp hx
      have htk : S.take (i2 + 1) = S.take i2 ++ [z] := take_snoc hz
      refine ⟨rfl, _, rfl, rfl, _, rfl, ite2 (fun hn => ?_) fun hn => ?_⟩
      · have hn' : z ≠ 0 := fun h0 => by subst h0; exact absurd hn (by decide)
        refine ⟨_, rfl, _, h3, line_of ?_, e3.mut nD h3 rfl, ?_⟩
        · rw [nvs_len]
          have h1 := List.length_filter_le (fun z => decide (z ≠ 0)) (S.take i2)
          rw [List.length_take] at h1
          omega
        · rw [upd_same, nvs_snoc, htk, List.filter_append, List.filter_cons, if_pos (decide_eq_true hn')]
          rfl
      · have hn' : z = 0 := by
          simp at hn
          have := V.int.inj hn
          omega
        refine ⟨e3, ?_⟩
        rw [htk, List.filter_append, List.filter_cons, if_neg (by simpa using hn')]
        simpa using h3
    · have htl : S.take (nvs S).length = S := List.take_of_length_le (by rw [nvs_len]; exact Nat.le_refl _)
      rw [htl] at h3
      have hfl := List.length_filter_le (fun z => decide (z ≠ 0)) S
      generalize hsm : S.filter (fun z => decide (z ≠ 0)) = some_ at h3 hfl
      have e13 := (e1.trans e2).trans e3
      have hM1' := e13.mon ok m1 AA hM1
      have hb3 := e3.lst hb2
      obtain ⟨_, dx1, r1, tt1, ll1, dd1, hB1, _⟩ := id hM1'
      refine ⟨_, rfl, b, nvs S, rfl, .inl (SqL.of hb3), _, rfl, m1, dx1, _, rfl, hB1.ob, rfl, m1, AA, rfl, hM1', _, _, rfl, rfl, _, rfl, ite2 (fun hge => ?_) fun hlt => ?_⟩
      · have hge' : n1 ≤ S.length := by
          have := of_decide_eq_true hge
          rw [nvs_len, l1] at this
          omega
        refine ⟨_, rfl, D, _, rfl, .inl (SqL.of h3), _, _, rfl, rfl, _, rfl, iteT (decide_eq_true (by show ((nvs some_).length : Int) ≤ 6; rw [nvs_len]; omega)) ?_⟩
        refine ⟨_, rfl, sa, svs, rfl, .inl (SqL.of ((e2.trans e3).lst hsv)), _, _, rfl, rfl, _, rfl, iteT (decide_eq_true (by show (svs.length : Int) < 60; omega)) ?_⟩
        -- generated
        have hmem : ∀ x ∈ some_, x ∈ S ∧ x ≠ 0 := fun x hx => by
          rw [← hsm] at hx
          obtain ⟨a1, a2⟩ := List.mem_filter.mp hx
          exact ⟨a1, of_decide_eq_true a2⟩
        have hall' : ∀ x ∈ S, x = 0 ∨ x ∈ some_ := fun x hx => by
          by_cases h0 : x = 0
          · exact .inl h0
          · right
            rw [← hsm]
            exact List.mem_filter.mpr ⟨hx, decide_eq_true h0⟩
        refine ⟨fun σ8 H8 => ∃ mp PP fP nums y8, σ8 = [some (.ref m1), some (.ref m2), some (.ref ta), some (.ref sa), some (.ref b), some (.ref D), none, some (.ref mp), y8] ∧ Ext P w (tbK K) (CM K) H' H8 ∧ MonAt P w (CM K) H8 mp PP ∧ 1 ≤ nums.length ∧ nums.length ≤ 6 ∧ (∀ x ∈ nums, x ∈ S) ∧ (∀ x ∈ S, x = 0 ∨ x ∈ nums) ∧ Bfs (nxM BB nums) nums.length 0 fP PP ∧ PP.length = fP.length, ?_, fun σ8 H8 h8 => ?_⟩
        · refine ⟨_, rfl, _, rfl, !(nvs some_).isEmpty, .inl ⟨_, SqL.of h3, rfl⟩, ite2 (fun hfull => ?_) fun hempty => ?_⟩
          · have h1 : 1 ≤ some_.length := by
              cases some_ with
              | nil => cases hfull
              | cons a l => simp
            refine ⟨m2, .ref D, BB, n2, k2, some_, rfl, e13.ok ok, e13.mon ok m2 BB hM2, G2, ⟨D, rfl, .inr h3⟩, h1, by omega, fun x hx => cS.lt x (hmem x hx).1, fun H8 p mp v8 fP PP e8 hp hmp hv8 Bf hl8 => ?_⟩
            exact ⟨_, _, _, _, rfl, rfl, SqT.of hp, atI_nat (j := 0) rfl, mp, PP, fP, some_, _, rfl, e8, hmp, h1, by omega, fun x hx => (hmem x hx).1, hall', Bf, hl8⟩
          · have h1 : some_ = [] := by
              cases some_ with
              | nil => rfl
              | cons a l => cases hempty
            subst h1
            refine ⟨(by show 1 ≤ sizeLine; decide), fun z0 hz0 => ?_⟩
            have e0 := Ext.new (P := P) (w := w) (tb := tbK K) (C := CM K) (o := .lst [.int 0]) hz0
            refine ⟨m2, .ref z0, BB, n2, k2, [0], rfl, (e13.trans e0).ok ok, (e13.trans e0).mon ok m2 BB hM2, G2, ⟨z0, rfl, .inr upd_same⟩, by simp, by simp, fun x hx => by rw [List.mem_singleton.mp hx]; exact z2, fun H8 p mp v8 fP PP e8 hp hmp hv8 Bf hl8 => ?_⟩
            exact ⟨_, _, _, _, rfl, rfl, SqT.of hp, atI_nat (j := 0) rfl, mp, PP, fP, [0], _, rfl, e0.trans e8, hmp, by simp, by simp, fun x hx => by rw [List.mem_singleton.mp hx]; exact cS.z, fun x hx => (hall' x hx).elim .inl fun z => (by cases z), Bf, hl8⟩
        · obtain ⟨mp, PP, fP, nums, y8, rfl, e8, hmp, h1, h6, hnS, hSn, Bf, hl8⟩ := h8
          have hnn : ∀ x ∈ nums, x < n2 := fun x hx => cS.lt x (hnS x hx)
          obtain ⟨GP, hPl, hPlt⟩ := gen_good G2 hnn h1 h6 Bf hl8
          have hall2 : ∀ x, x ∈ fP ↔ x ∈ S := part_all G2 hnn h1 h6 Bf hl8 (p := fun x => x ∈ S) cS.z hnS (fun x y hx hy => cS.cl x hx y hy) hSn
          have e18 := e13.trans e8
          refine ⟨_, rfl, mp, PP, fP.length, nums.length, rfl, e18.ok ok, hmp, GP, by omega, cong_count GP (by omega), fun H9 ca cvs Cs e9 hca hcp hCs => ?_⟩
          refine ⟨ca, rfl, ⟨_, SqL.of hca⟩, for_it (walk_list (xs := cvs)) (fun j σ H' => ∃ y8, σ = [some (.ref m1), some (.ref m2), some (.ref ta), some (.ref sa), some (.ref b), some (.ref D), none, some (.ref mp), y8] ∧ Ext P w (tbK K) (CM K) H9 H' ∧ ∀ (j' : Nat) ρ, j' < j → Cs[j']? = some ρ → ¬ Hit AA PP n1 k1 nums.length ρ)
            ⟨y8, rfl, .refl _, fun j' ρ hj => by omega⟩ (fun j σ H' _ ⟨_, _, e, _⟩ => SqL.of (e.lst hca)) (fun j y σ H' H10 hj ⟨y8, es, e10, hnh⟩ hy => ?_) fun σ H' ⟨y8, es, e10, hnh⟩ => ?_⟩
          · obtain ⟨rfl, hx⟩ := hy
            subst es
            obtain ⟨ρ, hρ, c, rfl, hc⟩ := paired_get' hcp hx
            have hC := (hCs ρ).mp (List.mem_of_getElem? hρ)
            have hc10 := e10.tup hc
            have e1A := (e18.trans e9).trans e10
            have hM1A := e1A.mon ok m1 AA hM1
            obtain ⟨_, dx1, r1, tt1, ll1, dd1, hB1A, _⟩ := id hM1A
            have nexth : ¬ Hit AA PP n1 k1 nums.length ρ → ∀ (j' : Nat) ρ', j' < j + 1 → Cs[j']? = some ρ' → ¬ Hit AA PP n1 k1 nums.length ρ' := fun hn j' ρ' hj' hρ' => by
              by_cases hji : j' < j
              · exact hnh j' ρ' hji hρ'
              · have : j' = j := by omega
                subst this
                rw [hρ] at hρ'
                cases hρ'
                exact hn
            refine ⟨_, rfl, c, ρ.map fun n : Nat => (n : Int), rfl, .inr (by rw [← nvs_int]; exact SqT.of hc10), by rw [List.length_map, hC.len]; omega, fun M hM hm => ?_⟩
            refine ⟨_, rfl, m1, dx1, _, rfl, hB1A.ob, rfl, m1, AA, rfl, hM1A, rfl, _, rfl, ite2 (fun heq => ?_) fun hne => ?_⟩
            · have heq' : M.length = n1 := by
                have := V.int.inj (of_decide_eq_true heq)
                omega
              have ePA := e9.trans e10
              refine ⟨_, rfl, _, rfl, _, rfl, mp, .ref c, PP, fP.length, nums.length, ρ, rfl, e1A.ok ok, ePA.mon (e18.ok ok) mp PP hmp, GP, ⟨c, rfl, hc10⟩, hC, fun H11 p qm qv fQ QQ e11 hp hqm Bq hql GQ => ?_⟩
              have hqn : fQ.length ≤ fP.length := (quot_good GP hC Bq hql).2.1
              have e1B := e1A.trans e11
              have hpow : n1 = fQ.length → n1 * k1 * fQ.length ^ k1 ≤ 500000 ∧ fQ.length ^ k1 ≤ 10000 := fun e => by
                have hq6 : fQ.length ≤ 6 := by omega
                have h3 : fQ.length ^ k1 ≤ 6 ^ 3 := Nat.le_trans (Nat.pow_le_pow_left hq6 _) (Nat.pow_le_pow_right (by omega) hk3)
                have h4 : n1 * k1 ≤ 6 * 3 := Nat.mul_le_mul (by omega) hk3
                have h5 := Nat.mul_le_mul h4 h3
                exact ⟨by omega, by omega⟩
              refine ⟨_, _, _, _, rfl, rfl, SqT.of hp, atI_nat (j := 0) rfl, m1, qm, AA, QQ, n1, k1, fQ.length, nums.length, rfl, e1B.ok ok, e1B.mon ok m1 AA hM1, hqm, G1, GQ, hpow, fun H12 v e12 hv => ?_⟩
              cases hiso : isoO AA QQ n1 fQ.length k1 with
              | none =>
                rw [hiso] at hv
                have hv' : v = .non := hv
                subst hv'
                refine ⟨rfl, _, rfl, ?_⟩
                refine ⟨_, rfl, (e10.trans e11).trans e12, nexth fun hit => ?_⟩
                obtain ⟨h1, imgs, hi1, hi2⟩ := hit.2 fQ QQ Bq hql
                unfold isoO at hiso
                rw [if_pos h1.symm] at hiso
                exact find_of hi1 (isoB_true hi2) hiso
              | some imgs =>
                rw [hiso] at hv
                obtain ⟨iv, rfl, _⟩ := hv
                refine ⟨rfl, _, rfl, iteT rfl ?_⟩
                unfold isoO at hiso
                split at hiso
                · have him := List.mem_of_find?_eq_some hiso
                  have hib := List.find?_some hiso
                  have hI : IsoOk AA QQ n1 k1 imgs := Classical.byContradiction fun z => by rw [isoB_false z] at hib; cases hib
                  exact q _ _ (e1B.trans e12) ⟨fun _ => parts_sound G1 G2 hnn h1 h6 Bf hl8 hC Bq hql him hI, fun _ => rfl⟩
                · cases hiso
            · have hne' : M.length ≠ n1 := fun z => by
                have := of_decide_eq_false hne
                exact this (by show V.int _ = V.int _; congr 1; omega)
              exact ⟨_, rfl, e10, nexth fun hit => hne' (hit.1 M hM hm)⟩
          · subst es
            refine ⟨_, _, _, _, rfl, (((e2.trans e3).trans e8).trans e9).trans e10, next fun ⟨row, hr, L, hg⟩ => ?_⟩
            obtain ⟨rl, rlt⟩ := rowsL_mem.mp hr
            obtain ⟨ρ, hρ, hit⟩ := parts_complete G1 G2 hnn h1 h6 Bf hl8 rlt rl L fun x => (hall2 x).trans (hg x)
            obtain ⟨j, hj⟩ := List.mem_iff_getElem?.mp ((hCs ρ).mpr hρ)
            exact hnh j ρ (by rw [paired_len hcp]; exact (List.getElem?_eq_some_iff.mp hj).1) hj hit
      · have hlt' : S.length < n1 := by
          have := of_decide_eq_false hlt
          rw [nvs_len, l1] at this
          omega
        refine iteF rfl ?_
        refine ⟨_, rfl, b, nvs S, rfl, .inl (SqL.of hb3), _, rfl, m1, dx1, _, rfl, hB1.ob, rfl, m1, AA, rfl, hM1', _, _, rfl, rfl, _, rfl, iteF hlt ?_⟩
        exact ⟨_, _, _, _, rfl, e2.trans e3, next fun ⟨row, hr, L, hg⟩ => by have := big row hr L hg; omega⟩
  · subst es
    refine q _ _ (e1.trans e2) ⟨fun z => (by cases z), fun ⟨row, hr, L⟩ => ?_⟩
    obtain ⟨rl, rlt⟩ := rowsL_mem.mp hr
    obtain ⟨g0, glt, gm, _⟩ := gen_closed G2 rlt rl
    obtain ⟨S, hS, hg⟩ := hall _ g0 glt gm
    obtain ⟨j, hj⟩ := List.mem_iff_getElem?.mp hS
    exact absurd ⟨row, hr, L, hg⟩ (hno j S (by rw [hsl]; exact (List.getElem?_eq_some_iff.mp hj).1) hj)
end
end K95
set_option Elab.async false
set_option linter.all false
set_option maxRecDepth 100000
set_option maxHeartbeats 4000000
set_option autoImplicit false
namespace K95
open PySem PySem.Spec PyProof.Rows L2
section
variable {P : Program} {w : World} {tb : Tbs} {C p : Addr} {H0 H H' : Hp} {c : Int} {t0 b : Nat} {m : Addr} {T : Tab}
theorem DrI.okk {x : Int} {t : Nat} (h : DrI P w tb C p c t0 b H0 H) (h0 : H0 p = some (srcO x c t)) (ok : Okk tb C H0) : Okk tb C H := by
  obtain ⟨e, x1, t1, h1, _⟩ := h
  exact (okk_hide h1).mp (e.ok ((okk_hide h0).mpr ok))
theorem DrI.mon {x : Int} {t : Nat} (h : DrI P w tb C p c t0 b H0 H) (h0 : H0 p = some (srcO x c t)) (ok : Okk tb C H0) (hm : MonAt P w C H0 m T) : MonAt P w C H m T := by
  obtain ⟨e, x1, t1, h1, _⟩ := h
  exact (mon_hide h1).mp (e.mon ((okk_hide h0).mpr ok) m T ((mon_hide h0).mpr hm))
theorem DrI.rows {r : Addr} {x : Int} {t n k : Nat} (h : DrI P w tb C p c t0 b H0 H) (h0 : H0 p = some (srcO x c t)) (F : Form T n k) (hr : RowsLT H0 r T) : RowsLT H r T := unhide_rows ((hr.hide F h0).ext h.e)
theorem DrI.tup_ {a : Addr} {xs : List V} {x : Int} {t : Nat} (h : DrI P w tb C p c t0 b H0 H) (h0 : H0 p = some (srcO x c t)) (ha : H0 a = some (.tup xs)) : H a = some (.tup xs) :=
  (hide_some (h.e.tup (hide_of ha h0 fun z => by cases z))).1
end
/-! ### what division tells, as data -/
def dOpt : Option (List Nat) → PyData
  | none => .none
  | some r => dT r
theorem dOpt_dp {K : PySem.W.Frag} {H : Hp} {v : V} {o : Option (List Nat)} (h : DivR H v o) : Dp K H v (dOpt o) := by
  cases o with
  | none =>
    have h' : v = .non := h
    subst h'
    exact .non
  | some r => exact dp_tup h
theorem dOpt_shaped (o : Option (List Nat)) : SeqAt.shaped (dOpt o) = true := by
  cases o with
  | none => rfl
  | some r => exact dT_shaped r
theorem dOpt_self (o : Option (List Nat)) : PyData.eqv (dOpt o) (dOpt o) = true := by
  cases o with
  | none => rfl
  | some r =>
    show PyData.eqv (dT r) (dT r) = true
    rw [dT_eqv]
    simp
theorem DivR.ext {P : Program} {w : World} {tb : Tbs} {C : Addr} {H H' : Hp} (e : Ext P w tb C H H') {v : V} {o : Option (List Nat)} (h : DivR H v o) : DivR H' v o := by
  cases o with
  | none => exact h
  | some r => exact IntTup.ext e h
theorem DivR.not_none {H : Hp} {v : V} {o : Option (List Nat)} (h : DivR H v o) : (!decide (v = V.non)) = decide (o ≠ none) := by
  cases o with
  | none =>
    have h' : v = .non := h
    subst h'
    rfl
  | some r =>
    obtain ⟨a, rfl, _⟩ := h
    rfl
theorem divO_some {A B : Tab} {n k : Nat} : divO A B n k ≠ none ↔ ∃ row ∈ rowsL n k, LedRow A B row := by
  unfold divO
  constructor
  · intro h
    cases e : (rowsL n k).find? (ledB A B) with
    | none => exact absurd e h
    | some r => exact ⟨r, List.mem_of_find?_eq_some e, ledB_iff.mp (List.find?_some e)⟩
  · rintro ⟨r, h1, h2⟩
    exact find_of h1 (ledB_true h2)
theorem find_snoc1 {α : Type} {q : α → Bool} {l : List α} {x y : α} (h : l.find? q = some y) : (l ++ [x]).find? q = some y := by
  rw [List.find?_append, h] <;> rfl
theorem find_snoc2 {α : Type} {q : α → Bool} {l : List α} {x : α} (h : l.find? q = none) : (l ++ [x]).find? q = if q x = true then some x else none := by
  rw [List.find?_append, h, Option.none_or, List.find?_cons]
  cases q x <;> rfl
theorem DivR.ref {H : Hp} {v : V} {A B : Tab} {n k : Nat} (h : DivR H v (divO A B n k)) (hn : ∃ row ∈ rowsL n k, LedRow A B row) : ∃ a, v = .ref a := by
  cases e : divO A B n k with
  | none => exact absurd e (divO_some.mpr hn)
  | some r =>
    rw [e] at h
    obtain ⟨a, rfl, _⟩ := h
    exact ⟨a, rfl⟩
theorem lets_row {T : Tab} {n k : Nat} (G : Good T n k) : lets T k ∈ rowsL n k := rowsL_mem.mpr ⟨lets_len T k, lets_lt G⟩
/-- the thin monoid -/
theorem good_thin : Good thinT 2 1 := by
  refine ⟨⟨rfl, by decide, by decide, by decide, by decide, fun x r h => ?_, fun x r h o ho => ?_⟩, ⟨2, rfl⟩, fun x c hx hc => ?_⟩
  · have hx : x < 2 := (List.getElem?_eq_some_iff.mp h).1
    have : x = 0 ∨ x = 1 := by omega
    rcases this with rfl | rfl <;> (cases h; rfl)
  · have hx : x < 2 := (List.getElem?_eq_some_iff.mp h).1
    have : x = 0 ∨ x = 1 := by omega
    rcases this with rfl | rfl <;> (cases h; simp at ho; omega)
  · have h1 : x = 0 ∨ x = 1 := by omega
    have h2 : c = 0 := by omega
    subst h2
    rcases h1 with rfl | rfl <;> decide
end K95
set_option Elab.async false
set_option linter.all false
set_option maxRecDepth 100000
set_option maxHeartbeats 4000000
set_option autoImplicit false
namespace K95
open PySem PySem.Spec PyProof.Rows L2
section
variable {P : Program} {w : World} {K : PySem.W.Frag} {mg : Str → Option Value} {base : Heap} {tb : Tbs}
def spRight (P : Program) (w : World) (K : PySem.W.Frag) : Sp := fun vs H Q _ => ∃ (p : Addr) (x c : Int) (t : Nat), vs = [.ref p] ∧ Okk (tbK K) (CM K) H ∧ H p = some (srcO x c t) ∧ t ≤ 700000 ∧
  ∀ H' x' t', Ext P w (tbK K) (CM K) (Hide p H) (Hide p H') → H' p = some (srcO x' c t') → Q (.bl true) H'
theorem sc_d_law_right : FnScope ["_law_source_here", "_law_rows_here", "_law_words", "_law_others", "_law_names", "_law_mine", "_law_table", "_law_here", "_law_there", "_law_due", "_law_some", "_law_by_parts_here", "_law_turn", "_law_part", "_law_pair", "_law_small", "_law_thin", "_law_both"] ["_law_source_here"] d_law_right.scope := ⟨rfl, rfl, rfl, by decide +kernel, rfl, by decide +kernel, by decide +kernel⟩
theorem go_law_right (T : Txt K mg) (hTB : ∀ p ∈ tfL, LamX.TabB base mg (He.cT K p).1 (He.cT K p).2): Go P w K mg base "_law_right" ["_law_source_here"] 12 (spRight P w K) := by
  obtain ⟨fd, F⟩ := T.fn 55
  obtain ⟨f_division, fd_division, m_division, k_division, b_division, G_division⟩ := go_division (P := P) (w := w) (base := base) (tb := tbK K) T
  obtain ⟨f_direct, fd_direct, m_direct, k_direct, b_direct, G_direct⟩ := go_direct (P := P) (w := w) (base := base)  T hTB
  obtain ⟨fd_init, b_init, G_init⟩ := go_init (P := P) (w := w) (base := base) (tb := tbK K) T
  obtain ⟨f_submonoid, fd_submonoid, m_submonoid, k_submonoid, b_submonoid, G_submonoid⟩ := go_submonoid (P := P) (w := w) (base := base)  T hTB
  obtain ⟨fd_size, b_size, G_size⟩ := go_size (P := P) (w := w) (base := base)  T
  obtain ⟨f_quotient, fd_quotient, m_quotient, k_quotient, b_quotient, G_quotient⟩ := go_quotient (P := P) (w := w) (base := base) (tb := tbK K) T
  obtain ⟨f_congruence, fd_congruence, m_congruence, k_congruence, b_congruence, G_congruence⟩ := go_congruence (P := P) (w := w) (base := base) (tb := tbK K) T
  obtain ⟨f_law_next, fd_law_next, m_law_next, k_law_next, b_law_next, G_law_next⟩ := go_law_next (P := P) (w := w) (base := base)  T
  obtain ⟨f_generated, fd_generated, m_generated, k_generated, b_generated, G_generated⟩ := go_generated (P := P) (w := w) (base := base)  T hTB
  obtain ⟨f_law_by_parts, fd_law_by_parts, m_law_by_parts, k_law_by_parts, b_law_by_parts, G_law_by_parts⟩ := go_law_by_parts (P := P) (w := w) (base := base)  T hTB
  obtain ⟨f_law_rows, fd_law_rows, m_law_rows, k_law_rows, b_law_rows, G_law_rows⟩ := go_law_rows (P := P) (w := w) (base := base) (tb := tbK K) T
  obtain ⟨f_law_leads, fd_law_leads, m_law_leads, k_law_leads, b_law_leads, G_law_leads⟩ := go_law_leads (P := P) (w := w) (base := base) (tb := tbK K) T
  obtain ⟨f_law_products, fd_law_products, m_law_products, k_law_products, b_law_products, G_law_products⟩ := go_law_products (P := P) (w := w) (base := base) (tb := tbK K) T
  obtain ⟨f_law_listed, fd_law_listed, m_law_listed, k_law_listed, b_law_listed, G_law_listed⟩ := go_law_listed (P := P) (w := w) (base := base) (tb := tbK K) T
  obtain ⟨f_law_drawn, fd_law_drawn, m_law_drawn, k_law_drawn, b_law_drawn, G_law_drawn⟩ := go_law_drawn (P := P) (w := w) (base := base) (tb := tbK K) T
  refine ⟨_, fd, T.g_law_right, F.kp, F.bindsN (fun _ _ _ _ _ _ us hl => match us, hl with | [_], _ => rfl), okN F sc_d_law_right (fun vs H Q E h => by
    obtain ⟨_, _, _, _, rfl, _⟩ := h
    rfl) (fun cdv A outer s H vs Q E rm h => ?_)⟩
  obtain ⟨p, x, c, t, rfl, ok, hp, ht, q⟩ := h
  refine ⟨_, (pss_cons (ps_asg (pe_call G_law_drawn (rm.mono (by decide)) rfl m_law_drawn k_law_drawn b_law_drawn .nil pass0 (pa_cons (pv 0) (pa_cons pe_int pa_nil))) (pg_tup (n := 2) rfl (pgs_cons (pg_name (i := 1) sc_d_law_right.nd rfl (Or.inl rfl)) (pgs_cons (pg_name (i := 2) sc_d_law_right.nd rfl (Or.inl rfl)) pgs_nil))))
      (pss_cons (ps_asg (pe_call G_law_drawn (rm.mono (by decide)) rfl m_law_drawn k_law_drawn b_law_drawn .nil pass0 (pa_cons (pv 0) (pa_cons pe_int pa_nil))) (pg_tup (n := 2) rfl (pgs_cons (pg_name (i := 3) sc_d_law_right.nd rfl (Or.inr rfl)) (pgs_cons (pg_name (i := 4) sc_d_law_right.nd rfl (Or.inl rfl)) pgs_nil))))
      (C8.pss_cut (ps_if (pt_cmpR (op_eq) (pe_callB call_len_seq (by rfl) T.n_len boot_len (pa_cons (pe_ix ix_list (pv 1) pe_int (fun _ _ => rfl)) pa_nil)) pe_int (nomark _)) (pss_one (ps_asg (pe_call G_law_listed (rm.mono (by decide)) rfl m_law_listed k_law_listed b_law_listed .nil pass0 (pa_cons (pe_lst (pa_cons (pe_lst (pa_cons pe_int (pa_cons pe_int pa_nil))) (pa_cons (pe_lst (pa_cons pe_int (pa_cons pe_int pa_nil))) pa_nil))) pa_nil)) (pg_tup (n := 2) rfl (pgs_cons (pg_name (i := 3) sc_d_law_right.nd rfl (Or.inr rfl)) (pgs_cons (pg_name (i := 4) sc_d_law_right.nd rfl (Or.inl rfl)) pgs_nil))))) pss_nil)
      (pss_cons (ps_par (i := 5) (j := 6) (by rfl) sc_d_law_right.nd rfl rfl (by decide) rfl rfl (pa_cons (pe_call G_law_products (rm.mono (by decide)) rfl m_law_products k_law_products b_law_products .nil pass0 (pa_cons (pv 1) (pa_cons (pv 2) pa_nil))) (pa_cons (pe_call G_law_products (rm.mono (by decide)) rfl m_law_products k_law_products b_law_products .nil pass0 (pa_cons (pv 3) (pa_cons (pv 4) pa_nil))) pa_nil)) (by rfl))
      (pss_cons (ps_par3 (i := 7) (j := 8) (l := 9) (by rfl) sc_d_law_right.nd rfl rfl rfl (by decide) (by decide) (by decide) rfl rfl rfl (pa_cons (pe_make T.mkr G_init (rm.mono (by decide)) rfl T.g_Monoid b_init .nil pass0 (pa_cons (pv 1) pa_nil)) (pa_cons (pe_make T.mkr G_init (rm.mono (by decide)) rfl T.g_Monoid b_init .nil pass0 (pa_cons (pv 3) pa_nil)) (pa_cons pe_non pa_nil))) (by rfl))
      (pss_cons (ps_for PassesOwn.never rfl (pi_list (pe_call G_law_rows (rm.mono (by decide)) rfl m_law_rows k_law_rows b_law_rows .nil pass0 (pa_cons (pe_callB call_len_seq (by rfl) T.n_len boot_len (pa_cons (pv 3) pa_nil)) (pa_cons (pe_callB call_len_seq (by rfl) T.n_len boot_len (pa_cons (pe_ix ix_list (pv 1) pe_int (fun _ _ => rfl)) pa_nil)) pa_nil)))) (pg_name (i := 10) sc_d_law_right.nd rfl (Or.inl rfl))
      (pss_one (ps_if (PW.pt (pw_and (pt_cmpR (op_isN) (pv 9) pe_non (nomark _)) (pw_and1 (pt_val (pe_call G_law_leads (rm.mono (by decide)) rfl m_law_leads k_law_leads b_law_leads .nil pass0 (pa_cons (pv 5) (pa_cons (pv 6) (pa_cons (pv 1) (pa_cons (pv 10) pa_nil))))))))) (pss_one (ps_set (i := 9) sc_d_law_right.nd rfl (Or.inl rfl) (pv 10))) pss_nil)))
      (pss_cons (ps_if (pt_cmpR ((op_neD rm.units)) (pe_call G_division (rm.mono (by decide)) rfl m_division k_division b_division .nil pass0 (pa_cons (pv 7) (pa_cons (pv 8) pa_nil))) (pv 9) (nomark _)) (pss_one (ps_ret pe_bl)) pss_nil)
      (C8.pss_cut (ps_if (pt_cmpR (op_lt) (pe_callB call_len_seq (by rfl) T.n_len boot_len (pa_cons (pv 3) pa_nil)) pe_int (nomark _)) (pss_cons (ps_set (i := 11) sc_d_law_right.nd rfl (Or.inl rfl) (pe_call G_law_by_parts (rm.mono (by decide)) rfl m_law_by_parts k_law_by_parts b_law_by_parts .nil pass0 (pa_cons (pv 7) (pa_cons (pv 8) (pa_cons (pv 6) pa_nil)))))
      (pss_one (ps_if (PW.pt (pw_and (pt_cmpR (op_notN) (pv 11) pe_non (nomark _)) (pw_and1 (pt_cmpR (op_ne) (pv 11) (pe_cmpR op_notN (pv 9) pe_non (nomark _)) (nomark _))))) (pss_one (ps_ret pe_bl)) pss_nil))) pss_nil)
      (pss_cons (ps_setLc (i := 10) (own := [("_law_turn", 12)]) (g := gName 12) rfl sc_d_law_right.nd rfl rfl (sw_true rfl rfl rfl (by decide +kernel)) (pi_range1 rfl T.n_range (pa_cons (pe_op op_add pe_int (pe_call G_law_next (rm.mono (by decide)) rfl m_law_next k_law_next b_law_next .nil pass0 (pa_cons (pv 0) (pa_cons pe_int pa_nil)))) pa_nil)) (blkOk_by (N := ["_law_source_here", "_law_rows_here", "_law_words", "_law_others", "_law_names", "_law_mine", "_law_table", "_law_here", "_law_there", "_law_due", "_law_some", "_law_by_parts_here", "_law_turn", "_law_part", "_law_pair", "_law_small", "_law_thin", "_law_both"]) (sc := d_law_right.scope) (by decide +kernel)) (fun _ _ _ _ _ => (pg_name (i := 12) sc_d_law_right.nd rfl (Or.inl rfl))) (fun _ _ _ _ _ => pts_nil) (fun _ _ _ _ _ => pe_c (pe_call G_law_next (rm.mono (by decide)) rfl m_law_next k_law_next b_law_next .nil pass0 (pa_cons (pv 0) (pa_cons (pe_callB call_len_seq (by rfl) T.n_len boot_len (pa_cons (pv 3) pa_nil)) pa_nil)))))
      (pss_cons (ps_set (i := 13) sc_d_law_right.nd rfl (Or.inl rfl) (pe_ix ix_tup (pe_call G_generated (rm.mono (by decide)) rfl m_generated k_generated b_generated .nil pass0 (pa_cons (pv 8) (pa_cons (pv 10) pa_nil))) pe_int (fun _ _ => rfl)))
      (pss_cons (ps_set (i := 14) sc_d_law_right.nd rfl (Or.inl rfl) (pe_lst (pa_cons (pe_tup (pa_cons (pe_call G_law_next (rm.mono (by decide)) rfl m_law_next k_law_next b_law_next .nil pass0 (pa_cons (pv 0) (pa_cons (pe_meth0 (pv 13) T.cl T.m_size G_size (rm.mono (by decide)) b_size .nil pass0) pa_nil))) (pa_cons (pe_call G_law_next (rm.mono (by decide)) rfl m_law_next k_law_next b_law_next .nil pass0 (pa_cons (pv 0) (pa_cons (pe_meth0 (pv 13) T.cl T.m_size G_size (rm.mono (by decide)) b_size .nil pass0) pa_nil))) pa_nil))) pa_nil)))
      (pss_cons (ps_set (i := 15) sc_d_law_right.nd rfl (Or.inl rfl) (pe_ix ix_tup (pe_call G_quotient (rm.mono (by decide)) rfl m_quotient k_quotient b_quotient .nil pass0 (pa_cons (pv 13) (pa_cons (pe_call G_congruence (rm.mono (by decide)) rfl m_congruence k_congruence b_congruence .nil pass0 (pa_cons (pv 13) (pa_cons (pv 14) pa_nil))) pa_nil))) pe_int (fun _ _ => rfl)))
      (pss_cons (ps_if (PW.pt (pw_or (pt_cmpR (op_isN) (pe_call G_division (rm.mono (by decide)) rfl m_division k_division b_division .nil pass0 (pa_cons (pv 15) (pa_cons (pv 8) pa_nil))) pe_non (nomark _)) (pw_or (pt_cmpR (op_isN) (pe_call G_division (rm.mono (by decide)) rfl m_division k_division b_division .nil pass0 (pa_cons (pv 15) (pa_cons (pv 13) pa_nil))) pe_non (nomark _)) (pw_or1 (pt_cmpR (op_isN) (pe_call G_division (rm.mono (by decide)) rfl m_division k_division b_division .nil pass0 (pa_cons (pv 7) (pa_cons (pv 7) pa_nil))) pe_non (nomark _)))))) (pss_one (ps_ret pe_bl)) pss_nil)
      (C8.pss_cut (ps_if (PW.pt (pw_and (pt_cmpR (op_notN) (pv 9) pe_non (nomark _)) (pw_and1 (pt_cmpR (op_lt) (pe_callB call_len_seq (by rfl) T.n_len boot_len (pa_cons (pe_call G_submonoid (rm.mono (by decide)) rfl m_submonoid k_submonoid b_submonoid .nil pass0 (pa_cons (pv 8) (pa_cons (pv 9) pa_nil))) pa_nil)) (pe_meth0 (pv 7) T.cl T.m_size G_size (rm.mono (by decide)) b_size .nil pass0) (nomark _))))) (pss_one (ps_ret pe_bl)) pss_nil)
      (pss_cons (ps_set (i := 16) sc_d_law_right.nd rfl (Or.inl rfl) (pe_make T.mkr G_init (rm.mono (by decide)) rfl T.g_Monoid b_init .nil pass0 (pa_cons (pe_lst (pa_cons (pe_lst (pa_cons pe_int pa_nil)) (pa_cons (pe_lst (pa_cons pe_int pa_nil)) pa_nil))) pa_nil)))
      (pss_cons (ps_set (i := 17) sc_d_law_right.nd rfl (Or.inl rfl) (pe_ix ix_tup (pe_call G_direct (rm.mono (by decide)) rfl m_direct k_direct b_direct .nil pass0 (pa_cons (pv 16) (pa_cons (pv 7) pa_nil))) pe_int (fun _ _ => rfl)))
      (pss_one (ps_ret (pe_or (pe_cmpR op_gt (pe_callB call_len_seq (by rfl) T.n_len boot_len (pa_cons (pe_ix ix_tup (pe_fld (pv 17) rfl) pe_int (fun _ _ => rfl)) pa_nil)) pe_int (nomark _)) (pe_one (pe_cmpR op_notN (pe_call G_division (rm.mono (by decide)) rfl m_division k_division b_division .nil pass0 (pa_cons (pv 16) (pa_cons (pv 17) pa_nil))) pe_non (nomark _)))))))))))))))))))))), ?_⟩
  refine ⟨_, rfl, p, x, c, t, 6, rfl, hp, by omega, by omega, by omega, fun H1 v1 x1 t1 E1 s1 ht1 hv1 => ?_⟩
  obtain ⟨p1, r1, w1, AA, n1, k1, ws1, rfl, hp1, hr1, hw1, G1, hn1, hk1, W1⟩ := hv1
  refine ⟨p1, _, rfl, SqT.of (hide_some hp1).1, rfl, _, _, rfl, _, [], rfl, rfl, ?_⟩
  refine ⟨_, rfl, p, x1, c, t1, 12, rfl, s1, by omega, by omega, by omega, fun H2 v2 x2 t2 E2 s2 ht2 hv2 => ?_⟩
  obtain ⟨p2, r2', w2', BB', n2', k2', ws2', rfl, hp2, hr2', hw2', G2', hn2', hk2', W2'⟩ := hv2
  refine ⟨p2, _, rfl, SqT.of (hide_some hp2).1, rfl, _, _, rfl, _, [], rfl, rfl, ?_⟩
  have hr1' := hr1.ext E2
  have hw1' := E2.lst hw1
  have hr1u := unhide_rows hr1'
  obtain ⟨row0, q1, q2, _⟩ := G1.form.at (x := 0) G1.form.n1
  obtain ⟨v0, b0, q3, q4, q5⟩ := hr1u.row q1
  have B2 : DrI P w (tbK K) (CM K) p c t2 0 H2 H2 := .refl s2
  refine ⟨fun σ H3 => ∃ r2 w2 BB n2 k2 ws2, σ = [some (.ref p), some (.ref r1), some (.ref w1), some (.ref r2), some (.ref w2), none, none, none, none, none, none, none, none, none, none, none, none, none] ∧ DrI P w (tbK K) (CM K) p c t2 0 H2 H3 ∧ RowsLT (Hide p H3) r2 BB ∧ Hide p H3 w2 = some (.lst (ws2.map fun p => V.str (wordStr p))) ∧ Good BB n2 k2 ∧ n2 ≤ 12 ∧ k2 ≤ 3 ∧ WordsOk BB n2 k2 ws2 ∧ n2 ^ k1 ≤ 144, ?_, fun σ H3 hM => ?_⟩
  · refine ⟨_, rfl, _, _, _, _, rfl, rfl, SqL.of q3, atI_nat (j := 0) q4, b0, _, rfl, .inr (SqT.of q5), rfl, _, rfl, ite2 (fun h3 => ?_) fun h3 => ?_⟩
    · have hk3 : k1 = 3 := by
        have := V.int.inj (of_decide_eq_true h3)
        rw [nvs_len, q2] at this
        omega
      refine ⟨(by show 2 ≤ sizeLine; decide), fun a1 ha1 => ⟨(by show 2 ≤ sizeLine; decide), fun a2 ha2 => ⟨(by show 2 ≤ sizeLine; decide), fun a3 ha3 => ?_⟩⟩⟩
      have C1 := B2.new (o := .lst [.int 1, .int 0]) ha1
      have C2 := C1.new (o := .lst [.int 0, .int 0]) ha2
      have C3 := C2.new (o := .lst [.ref a1, .ref a2]) ha3
      have n12 : a1 ≠ a2 := ne_of_none upd_same ha2
      have n13 : a1 ≠ a3 := ne_of_none (by rw [upd_ne n12]; exact upd_same) ha3
      have n23 : a2 ≠ a3 := ne_of_none upd_same ha3
      refine ⟨a3, [[1, 0], [0, 0]], 2, rfl, ⟨_, upd_same, .cons ⟨a1, rfl, by rw [upd_ne n13, upd_ne n12, upd_same]; rfl⟩ (.cons ⟨a2, rfl, by rw [upd_ne n23, upd_same]; rfl⟩ .nil)⟩, fun M hM => ?_, by simp, by simp, by omega, fun H9 v e9 hv => ?_⟩
      · simp at hM
        rcases hM with rfl | rfl
        · exact ⟨rfl, by decide⟩
        · exact ⟨rfl, by decide⟩
      · have C9 := C3.call e9
        obtain ⟨x9, t9, hs9, ht9⟩ := C9.s
        rcases hv with ⟨_, h⟩ | ⟨pp, rr, wa, TT, n, ws, rfl, hpp, hrr, hwa, hG, hnm, hn40, hW⟩
        · exact absurd h (by decide)
        · have h4 : n ≤ 4 := hnm
          obtain ⟨_, _, _, _, _, _, _, e1, e2, e3, e4, _, _, _, _⟩ := drawn_of (most := 12) hs9 hpp hrr hwa hG (by omega) (by decide) hW
          cases e1
          refine ⟨pp, _, rfl, SqT.of hpp, rfl, _, _, rfl, _, [], rfl, rfl, ?_⟩
          have hwa' : Hide p H9 wa = some (.lst (ws.map fun p => V.str (wordStr p))) := hide_of hwa hs9 fun z => by
            have e := HO.lst.inj z
            have h1 := hW.len
            have h2 := hG.form.n1
            cases ws with
            | nil => simp at h1; omega
            | cons a ws => simp at e
          refine ⟨rr, wa, TT, n, _, ws, rfl, C9, hrr.hide hG.form hs9, hwa', hG, by omega, by simp, hW, ?_⟩
          subst hk3
          exact Nat.le_trans (Nat.pow_le_pow_left h4 3) (by decide)
    · have hk3 : k1 ≠ 3 := fun z => by
        have := of_decide_eq_false h3
        exact this (by show V.int _ = V.int _; rw [nvs_len, q2, z]; rfl)
      refine ⟨r2', w2', BB', n2', k2', ws2', rfl, B2, hr2', hw2', G2', hn2', hk2', W2', ?_⟩
      exact Nat.le_trans (Nat.pow_le_pow_left hn2' k1) (Nat.le_trans (Nat.pow_le_pow_right (by omega) (show k1 ≤ 2 by omega)) (by decide))
  · obtain ⟨r2, w2, BB, n2, k2, ws2, rfl, B3, hr2, hw2, G2, hn2, hk2, W2, hpow⟩ := hM
    have z1 := G1.form.n1
    have z2 := G2.form.n1
    have zk1 := G1.form.k1
    have hr13 := unhide_rows (hr1'.ext B3.e)
    have hw13 := (hide_some (B3.e.lst hw1')).1
    have hr23 := unhide_rows hr2
    have hw23 := (hide_some hw2).1
    obtain ⟨x3, t3, s3, ht3⟩ := B3.s
    have ok3 : Okk (tbK K) (CM K) H3 := (okk_hide s3).mp (((E1.trans E2).trans B3.e).ok ((okk_hide hp).mpr ok))
    refine ⟨_, rfl, _, rfl, r1, w1, AA, n1, k1, ws1, rfl, hr13, hw13, G1, W1, fun H4 ma e4 hma => ?_⟩
    refine ⟨_, rfl, _, rfl, r2, w2, BB, n2, k2, ws2, rfl, hr23.ext e4, e4.lst hw23, G2, W2, fun H5 ta e5 hta => ⟨_, _, rfl, ?_⟩⟩
    have hr15 := (hr13.ext e4).ext e5
    refine ⟨_, rfl, fun xh dxh hxh hdxh neh => make_mon hxh hdxh neh hr15.tabO G1 fun H6 e6 hMh => ?_⟩
    have hr26 := ((hr23.ext e4).ext e5).ext e6
    refine ⟨_, rfl, fun xt dxt hxt hdxt net => make_mon hxt hdxt net hr26.tabO G2 fun H7 e7 hMt => ⟨_, _, _, rfl, ?_⟩⟩
    have e37 := ((e4.trans e5).trans e6).trans e7
    have hMh7 := e7.mon (((e4.trans e5).trans e6).ok ok3) xh AA hMh
    have ok7 := e37.ok ok3
    have s7 := e37.lst s3
    have hr17 := hr13.ext e37
    have hr27 := hr23.ext e37
    have hma7 := ((hma.ext e5).ext e6).ext e7
    have hta7 := (hta.ext e6).ext e7
    obtain ⟨u1, g1, g2⟩ := id hr17
    obtain ⟨u2, g3, g4⟩ := id hr27
    have hu2 : u2.length = n2 := by rw [paired_len g4, G2.form.len]
    obtain ⟨v1', b1, q6, q7, q8⟩ := hr17.row q1
    have hpow2 : n1 * n2 * n2 ^ k1 ≤ 500000 := by
      have h1 : n1 * n2 ≤ 6 * 12 := Nat.mul_le_mul hn1 hn2
      have := Nat.mul_le_mul h1 hpow
      omega
    refine ⟨_, rfl, r2, u2, rfl, .inl (SqL.of g3), _, rfl, _, _, _, _, rfl, rfl, SqL.of q6, atI_nat (j := 0) q7, b1, _, rfl, .inr (SqT.of q8), n2, k1, by rw [hu2, nvs_len, q2]; rfl, z2, by omega, by omega, by omega, fun H8 ra rvs e8 hra hrp => ?_⟩
    refine ⟨ra, rfl, ⟨_, SqL.of hra⟩, for_it (walk_list (xs := rvs)) (fun i σ H' => ∃ dv y10, σ = [some (.ref p), some (.ref r1), some (.ref w1), some (.ref r2), some (.ref w2), some (.ref ma), some (.ref ta), some (.ref xh), some (.ref xt), some dv, y10, none, none, none, none, none, none, none] ∧ Ext P w (tbK K) (CM K) H8 H' ∧ DivR H' dv (((rowsL n2 k1).take i).find? (ledB AA BB)))
      ⟨.non, none, rfl, .refl _, rfl⟩ (fun i σ H' _ ⟨_, _, _, e, _⟩ => SqL.of (e.lst hra)) (fun i y σ H' H9 hi ⟨dv, y10, es, e9, hdv⟩ hy => ?_) fun σ H' ⟨dv, y10, es, e9, hdv⟩ => ?_⟩
    · obtain ⟨rfl, hx⟩ := hy
      subst es
      obtain ⟨row, hrow, va, rfl, hva⟩ := paired_get' hrp hx
      obtain ⟨rl, rlt⟩ := rowsL_mem.mp (List.mem_of_getElem? hrow)
      have e79 := e8.trans e9
      cases hf : ((rowsL n2 k1).take i).find? (ledB AA BB) with
      | some r =>
        rw [hf] at hdv
        have htk : ((rowsL n2 k1).take (i + 1)).find? (ledB AA BB) = some r := by rw [take_snoc hrow, find_snoc1 hf]
        obtain ⟨da, rfl, hda⟩ := id hdv
        refine ⟨_, rfl, rfl, _, rfl, iteF rfl ?_⟩
        refine ⟨_, _, rfl, e9, ?_⟩
        rw [htk]
        exact hdv
      | none =>
        rw [hf] at hdv
        have htk : ((rowsL n2 k1).take (i + 1)).find? (ledB AA BB) = if ledB AA BB row = true then some row else none := by rw [take_snoc hrow, find_snoc2 hf]
        have hdv' : dv = .non := hdv
        subst hdv'
        refine ⟨_, rfl, rfl, _, rfl, iteT rfl ?_⟩
        refine ⟨_, rfl, _, rfl, _, rfl, _, rfl, ma, ta, r1, va, AA, BB, n1, k1, n2, k2, row, rfl, hma7.ext e79, hta7.ext e79, hr17.ext e79, G1, G2, e9.tup hva, rl, rlt, fun H10 e10 => ⟨_, rfl, ?_⟩⟩
        cases hl : ledB AA BB row with
        | true =>
          rw [hl] at htk
          refine ⟨_, rfl, _, _, rfl, e9.trans e10, ?_⟩
          rw [htk]
          exact ⟨va, rfl, (e9.trans e10).tup hva⟩
        | false =>
          rw [hl] at htk
          refine ⟨_, _, rfl, e9.trans e10, ?_⟩
          rw [htk]
          rfl
    · subst es
      rw [List.take_of_length_le (by rw [paired_len hrp]; exact Nat.le_refl _)] at hdv
      have hdv' : DivR H' dv (divO AA BB n2 k1) := hdv
      have e79 := e8.trans e9
      have ok9 := e79.ok ok7
      have hMh9 := e79.mon ok7 xh AA hMh7
      have hMt9 := e79.mon ok7 xt BB hMt
      refine ⟨_, rfl, _, rfl, xh, xt, AA, BB, n1, k1, n2, k2, rfl, ok9, hMh9, hMt9, G1, G2, hpow2, by omega, fun H10 dv2 e10 hdv2 => ?_⟩
      refine ⟨_, rfl, dOpt (divO AA BB n2 k1), dOpt (divO AA BB n2 k1), dOpt_dp hdv2, dOpt_dp (hdv'.ext e10), dOpt_shaped _, dOpt_shaped _, _, rfl, iteF (by rw [dOpt_self]; rfl) ?_⟩
      have e710 := e79.trans e10
      have ok10 := e710.ok ok7
      have hMh10 := e10.mon ok9 xh AA hMh9
      have hMt10 := e10.mon ok9 xt BB hMt9
      have hdv10 := hdv'.ext e10
      refine ⟨fun σ H11 => ∃ y10 y11, σ = [some (.ref p), some (.ref r1), some (.ref w1), some (.ref r2), some (.ref w2), some (.ref ma), some (.ref ta), some (.ref xh), some (.ref xt), some dv, y10, y11, none, none, none, none, none, none] ∧ Ext P w (tbK K) (CM K) H10 H11, ?_, fun σ H11 hM => ?_⟩
      · refine ⟨_, rfl, r2, u2, rfl, .inl (SqL.of (e710.lst g3)), _, _, rfl, rfl, _, rfl, ite2 (fun h7 => ?_) fun h7 => ?_⟩
        · have hn6 : n2 ≤ 6 := by
            have := of_decide_eq_true h7
            omega
          refine ⟨_, rfl, _, rfl, _, rfl, xh, xt, ta, AA, BB, n1, k1, n2, k2, rfl, ok10, hMh10, hMt10, G1, G2, hn6, hk1, hta7.ext e710, fun H11 b e11 hb => ?_⟩
          have hdv11 := hdv10.ext e11
          refine ⟨_, rfl, rfl, _, rfl, iteT rfl ?_⟩
          refine ⟨_, rfl, _, rfl, rfl, rfl, _, rfl, iteF ?_ ?_⟩
          · rw [hdv11.not_none]
            have : b = decide (divO AA BB n2 k1 ≠ none) := by
              by_cases hd : divO AA BB n2 k1 ≠ none
              · rw [decide_eq_true hd]
                exact hb.mpr (divO_some.mp hd)
              · rw [decide_eq_false hd]
                cases hbb : b with
                | false => rfl
                | true => exact absurd (divO_some.mpr (hb.mp hbb)) hd
            rw [this]
            simp
          · exact ⟨_, _, rfl, e11⟩
        · exact ⟨_, _, rfl, .refl _⟩
      · obtain ⟨y10', y11, rfl, e11⟩ := hM
        have e711 := e710.trans e11
        have ok11 := e711.ok ok7
        have s11 := e711.lst s7
        have hMh11 := e11.mon ok10 xh AA hMh10
        have hMt11 := e11.mon ok10 xt BB hMt10
        have hr211 := hr27.ext e711
        have hdv11 := hdv10.ext e11
        have B11 : DrI P w (tbK K) (CM K) p c t3 0 H11 H11 := .refl s11
        refine ⟨_, rfl, p, x3, c, t3, 2, rfl, s11, by omega, by omega, by omega, fun x4 r4 hr4 t4 ht4 => ⟨_, _, rfl, rfl, ((1 + r4 : Nat) : Int), rfl, by omega, by omega, fun D hD => ?_⟩⟩
        have B12 := B11.next (x' := x4) (t' := t4) (by omega)
        have hr212 := B12.rows s11 G2.form hr211
        have hDp : D ≠ p := B12.ne hD
        have s12 : (upd H11 p (srcO x4 c t4)) p = some (srcO x4 c t4) := upd_same
        generalize upd H11 p (srcO x4 c t4) = H12 at B12 hD hr212 s12
        have nD12 : Nw (Hide p H12) D := .of (hide_none hD)
        refine lc_it (walk_range (n := 1 + r4)) (fun i H' => DrI P w (tbK K) (CM K) p c t4 i H12 H' ∧ ∃ l, H' D = some (.lst (nvs l)) ∧ l.length = i ∧ ∀ z ∈ l, z < n2)
          ⟨(DrI.refl s12).new hD, [], upd_same, rfl, fun z h => by cases h⟩ (fun _ _ _ _ => trivial) (fun i z H13 H14 hi ⟨B13, l, hl7, hll, hlt⟩ hyy => ?_) fun H13 ⟨B13, nums, hn7, hnl, hnlt⟩ => ?_
        · obtain ⟨rfl, rfl⟩ := hyy
          obtain ⟨x5, t5, s5, ht5⟩ := B13.s
          obtain ⟨u, hu, hup⟩ := B13.rows s12 G2.form hr212
          have hul : u.length = n2 := by rw [paired_len hup, G2.form.len]
          refine ⟨rfl, _, rfl, _, rfl, r2, u, rfl, .inl (SqL.of hu), p, x5, c, t5, n2, by rw [hul]; rfl, s5, by omega, z2, by omega, fun x6 r6 hr6 t6 ht6 => ?_⟩
          have hD' : (upd H14 p (srcO x6 c t6)) D = some (.lst (nvs l)) := by rw [upd_ne hDp]; exact hl7
          refine ⟨_, hD', by rw [nvs_len]; exact line_of (by omega), (B13.next (by omega)).mut nD12 hD' rfl hDp, l ++ [r6], by rw [upd_same, nvs_snoc], by simp [hll], fun z hz => ?_⟩
          rcases List.mem_append.mp hz with h | h
          · exact hlt z h
          · rw [List.mem_singleton.mp h]
            exact hr6
        · have C13 : DrI P w (tbK K) (CM K) p c t3 (0 + 1 + (1 + r4)) H11 H13 := B12.trans s12 (by omega) B13
          have ok13 := C13.okk s11 ok11
          have hMt13 := C13.mon s11 ok11 hMt11
          have hMh13 := C13.mon s11 ok11 hMh11
          have hdv13 : DivR H13 dv (divO AA BB n2 k1) := by
            cases hd : divO AA BB n2 k1 with
            | none =>
              rw [hd] at hdv11
              exact hdv11
            | some r =>
              rw [hd] at hdv11
              obtain ⟨a, e, h⟩ := hdv11
              exact ⟨a, e, C13.tup_ s11 h⟩
          have h1 : 1 ≤ nums.length := by omega
          refine ⟨_, rfl, _, rfl, xt, .ref D, BB, n2, k2, nums, rfl, ok13, hMt13, G2, ⟨D, rfl, .inr hn7⟩, h1, by omega, hnlt, fun H14 p4 mp v4 fP PP e14 hp4 hmp hv4 Bf hl4 => ?_⟩
          refine ⟨_, _, _, _, rfl, rfl, SqT.of hp4, atI_nat (j := 0) rfl, ?_⟩
          obtain ⟨GP, hPn, hPlt⟩ := gen_good G2 hnlt h1 (by omega) Bf hl4
          have C14 := C13.call e14
          obtain ⟨x5, t5, s5, ht5⟩ := C14.s
          have ok14 := e14.ok ok13
          obtain ⟨_, dx5, rr5, tt5, ll5, dd5, hB5, _⟩ := id hmp
          have zP := GP.form.n1
          refine ⟨_, rfl, _, rfl, mp, dx5, _, rfl, hB5.ob, rfl, mp, PP, rfl, hmp, p, x5, c, t5, PP.length, rfl, s5, by omega, by omega, by omega, fun x6 a6 ha6 t6 ht6 => ?_⟩
          have D6 := (DrI.refl (P := P) (w := w) (tb := tbK K) (C := CM K) s5).next (x' := x6) (t' := t6) (by omega)
          have hmp6 := D6.mon s5 ok14 hmp
          have s6 : (upd H14 p (srcO x6 c t6)) p = some (srcO x6 c t6) := upd_same
          generalize upd H14 p (srcO x6 c t6) = H15 at D6 hmp6 s6
          obtain ⟨_, dx6, rr6, tt6, ll6, dd6, hB6, _⟩ := id hmp6
          refine ⟨_, rfl, _, rfl, mp, dx6, _, rfl, hB6.ob, rfl, mp, PP, rfl, hmp6, p, x6, c, t6, PP.length, rfl, s6, by omega, by omega, by omega, fun x7 a7 ha7 t7 ht7 => ?_⟩
          have D7 := D6.next (x' := x7) (t' := t7) (by omega)
          have s7' : (upd H15 p (srcO x7 c t7)) p = some (srcO x7 c t7) := upd_same
          generalize upd H15 p (srcO x7 c t7) = H16 at D7 s7'
          refine ⟨(by show 2 ≤ sizeLine; decide), fun tt htt => ⟨(by show 1 ≤ sizeLine; decide), fun pl hpl => ?_⟩⟩
          have D8 := (D7.new (o := .tup [nv a6, nv a7]) htt).new (o := .lst [.ref tt]) hpl
          have htt8 : (upd (upd H16 tt (.tup [nv a6, nv a7])) pl (.lst [.ref tt])) tt = some (.tup [nv a6, nv a7]) := by rw [upd_ne (ne_of_none upd_same hpl), upd_same]
          have hpl8 : (upd (upd H16 tt (.tup [nv a6, nv a7])) pl (.lst [.ref tt])) pl = some (.lst [.ref tt]) := upd_same
          generalize (upd (upd H16 tt (.tup [nv a6, nv a7])) pl (.lst [.ref tt])) = H17 at D8 htt8 hpl8
          have ok17 := D8.okk s5 ok14
          have hmp17 := D8.mon s5 ok14 hmp
          refine ⟨_, rfl, _, rfl, _, rfl, mp, pl, tt, PP, fP.length, nums.length, a6, a7, rfl, ok17, hmp17, GP, hpl8, htt8, by omega, by omega, fun H18 ρp ρ e18 hC hρp => ?_⟩
          have ok18 := e18.ok ok17
          refine ⟨mp, .ref ρp, PP, fP.length, nums.length, ρ, rfl, ok18, e18.mon ok17 mp PP hmp17, GP, ⟨ρp, rfl, hρp⟩, hC, fun H19 p9 qm qv fQ QQ e19 hp9 hqm Bq hql GQ => ?_⟩
          refine ⟨_, _, _, _, rfl, rfl, SqT.of hp9, atI_nat (j := 0) rfl, ?_⟩
          have hQn := (quot_good GP hC Bq hql).2.1
          have D19 := (D8.call e18).call e19
          have ok19 := e19.ok ok18
          have hMh19 := D19.mon s5 ok14 (e14.mon ok13 xh AA hMh13)
          have hMt19 := D19.mon s5 ok14 (e14.mon ok13 xt BB hMt13)
          have hmp19 := D19.mon s5 ok14 hmp
          have C19 := C14.trans s5 ht5 D19
          have hdv19 : DivR H19 dv (divO AA BB n2 k1) := by
            have h14 := hdv13.ext e14
            cases hd : divO AA BB n2 k1 with
            | none =>
              rw [hd] at h14
              exact h14
            | some r =>
              rw [hd] at h14
              obtain ⟨a, e, h⟩ := h14
              exact ⟨a, e, D19.tup_ s5 h⟩
          -- the three divisions
          have hnl2 : nums.length ≤ 2 := by omega
          have p1 : n2 ^ nums.length ≤ 144 := Nat.le_trans (Nat.pow_le_pow_left hn2 _) (Nat.le_trans (Nat.pow_le_pow_right (by omega) hnl2) (by decide))
          have p2' : fP.length ^ nums.length ≤ 144 := Nat.le_trans (Nat.pow_le_pow_left (show fP.length ≤ 12 by omega) _) (Nat.le_trans (Nat.pow_le_pow_right (by omega) hnl2) (by decide))
          have p3 : n1 ^ k1 ≤ 216 := Nat.le_trans (Nat.pow_le_pow_left hn1 _) (Nat.le_trans (Nat.pow_le_pow_right (by omega) hk1) (by decide))
          have b1' : fQ.length * n2 * n2 ^ nums.length ≤ 500000 := by
            have := Nat.mul_le_mul (Nat.mul_le_mul (show fQ.length ≤ 12 by omega) hn2) p1
            omega
          have b2' : fQ.length * fP.length * fP.length ^ nums.length ≤ 500000 := by
            have := Nat.mul_le_mul (Nat.mul_le_mul (show fQ.length ≤ 12 by omega) (show fP.length ≤ 12 by omega)) p2'
            omega
          have b3' : n1 * n1 * n1 ^ k1 ≤ 500000 := by
            have := Nat.mul_le_mul (Nat.mul_le_mul hn1 hn1) p3
            omega
          refine ⟨_, rfl, _, rfl, qm, xt, QQ, BB, fQ.length, nums.length, n2, k2, rfl, ok19, hqm, hMt19, GQ, G2, b1', by omega, fun H20 va e20 hva => ?_⟩
          obtain ⟨aa, rfl⟩ := hva.ref ⟨nums, rowsL_mem.mpr ⟨rfl, hnlt⟩, led_part G2 hnlt h1 (by omega) Bf hl4 hC Bq hql⟩
          refine ⟨rfl, _, rfl, iteF rfl ?_⟩
          have ok20 := e20.ok ok19
          refine ⟨_, rfl, _, rfl, qm, mp, QQ, PP, fQ.length, nums.length, fP.length, nums.length, rfl, ok20, e20.mon ok19 qm QQ hqm, e20.mon ok19 mp PP hmp19, GQ, GP, b2', by omega, fun H21 vb e21 hvb => ?_⟩
          obtain ⟨ab, rfl⟩ := hvb.ref ⟨lets PP nums.length, lets_row GP, led_quot GP hC Bq hql⟩
          refine ⟨rfl, _, rfl, iteF rfl ?_⟩
          have ok21 := e21.ok ok20
          have e1921 := e20.trans e21
          have hMh21 := e1921.mon ok19 xh AA hMh19
          refine ⟨_, rfl, _, rfl, xh, xh, AA, AA, n1, k1, n1, k1, rfl, ok21, hMh21, hMh21, G1, G1, b3', by omega, fun H22 vc e22 hvc => ?_⟩
          obtain ⟨ac, rfl⟩ := hvc.ref ⟨lets AA k1, lets_row G1, led_self G1⟩
          refine ⟨rfl, _, rfl, iteF rfl ?_⟩
          have e1922 := e1921.trans e22
          have ok22 := e1922.ok ok19
          have hMh22 := e1922.mon ok19 xh AA hMh19
          have hMt22 := e1922.mon ok19 xt BB hMt19
          have hdv22 := hdv19.ext e1922
          have C22 := C19.call e1922
          -- what is behind the submonoid
          refine ⟨fun σ H23 => σ = [some (.ref p), some (.ref r1), some (.ref w1), some (.ref r2), some (.ref w2), some (.ref ma), some (.ref ta), some (.ref xh), some (.ref xt), some dv, some (.ref D), y11, none, some (.ref mp), some (.ref pl), some (.ref qm), none, none] ∧ Ext P w (tbK K) (CM K) H22 H23, ?_, fun σ H23 hM => ?_⟩
          · refine ⟨_, rfl, rfl, _, rfl, ?_⟩
            cases hd : divO AA BB n2 k1 with
            | none =>
              rw [hd] at hdv22
              have hdn : dv = .non := hdv22
              subst hdn
              exact iteF rfl (iteF rfl ⟨rfl, .refl _⟩)
            | some r =>
              rw [hd] at hdv22
              obtain ⟨da, rfl, hda⟩ := hdv22
              have hr1m : r ∈ rowsL n2 k1 := List.mem_of_find?_eq_some hd
              have hrl : LedRow AA BB r := ledB_iff.mp (List.find?_some hd)
              obtain ⟨rl, rlt⟩ := rowsL_mem.mp hr1m
              refine iteT rfl ?_
              refine ⟨_, rfl, _, rfl, xt, .ref da, BB, n2, k2, r, rfl, ok22, hMt22, G2, ⟨da, rfl, .inl hda⟩, by omega, rlt, fun H24 ps vs' fS rS e24 hps hvl Bs hls => ?_⟩
              have hsz := led_size G1 rl hrl (sub := fS) fun u hu => bfs_all Bs hls (by rw [rl]; exact hu)
              have hMh24 := e24.mon ok22 xh AA hMh22
              obtain ⟨_, dx7, rr7, tt7, ll7, dd7, hB7, _⟩ := id hMh24
              have l1 := G1.form.len
              refine ⟨ps, vs', rfl, .inr (SqT.of hps), _, rfl, xh, dx7, _, rfl, hB7.ob, rfl, xh, AA, rfl, hMh24, _, _, rfl, rfl, _, rfl, iteF (decide_eq_false (by rw [hvl, l1]; omega)) ⟨rfl, e24⟩⟩
          · obtain ⟨rfl, e23⟩ := hM
            have ok23 := e23.ok ok22
            have hMh23 := e23.mon ok22 xh AA hMh22
            refine ⟨(by show 1 ≤ sizeLine; decide), fun a1 ha1 => ⟨(by show 1 ≤ sizeLine; decide), fun a2 ha2 => ⟨(by show 2 ≤ sizeLine; decide), fun a3 ha3 => ?_⟩⟩⟩
            have f1 := Ext.new (P := P) (w := w) (tb := tbK K) (C := CM K) (o := .lst [.int 1]) ha1
            have f2 := Ext.new (P := P) (w := w) (tb := tbK K) (C := CM K) (o := .lst [.int 1]) ha2
            have f3 := Ext.new (P := P) (w := w) (tb := tbK K) (C := CM K) (o := .lst [.ref a1, .ref a2]) ha3
            have e26 := (f1.trans f2).trans f3
            have hTO : TabO (upd (upd (upd H23 a1 (.lst [.int 1])) a2 (.lst [.int 1])) a3 (.lst [.ref a1, .ref a2])) (.ref a3) thinT :=
              ⟨[.ref a1, .ref a2], ⟨a3, rfl, .inr upd_same⟩, .cons ⟨a1, rfl, .inr ((f2.trans f3).lst upd_same)⟩ (.cons ⟨a2, rfl, .inr (f3.lst upd_same)⟩ .nil)⟩
            refine fun xs dxs hxs hdxs nes => make_mon hxs hdxs nes hTO good_thin fun H27 e27 hMs => ?_
            have e2327 := e26.trans e27
            have ok27 := e2327.ok ok23
            have hMh27 := e2327.mon ok23 xh AA hMh23
            refine ⟨_, rfl, _, rfl, xs, xh, thinT, AA, 2, 1, n1, k1, rfl, ok27, hMs, hMh27, good_thin, G1, by omega, by omega, fun H28 p9 bm bv fB RR e28 hp9 hbm Bb hlb GR hle => ?_⟩
            refine ⟨_, _, _, _, rfl, rfl, SqT.of hp9, atI_nat (j := 0) rfl, ?_⟩
            have ok28 := e28.ok ok27
            have hMs28 := e28.mon ok27 xs thinT hMs
            obtain ⟨_, dx8, rr8, tt8, ll8, dd8, hB8, _⟩ := id hbm
            obtain ⟨rowR, k11, k12, _⟩ := GR.form.at (x := 0) GR.form.n1
            obtain ⟨rvs8, rb8, k13, k14, k15⟩ := hB8.right.row k11
            have hB12 : fB.length ≤ 12 := by omega
            have b4 : 2 * fB.length * fB.length ^ 1 ≤ 500000 := by
              have := Nat.mul_le_mul (Nat.mul_le_mul (Nat.le_refl 2) hB12) (show fB.length ^ 1 ≤ 12 by simpa using hB12)
              omega
            have zB := GR.form.n1
            refine ⟨_, rfl, _, _, dx8, _, _, rfl, hB8.ob, T.cl, T.no_right, rfl, _, _, _, _, rfl, rfl, SqT.of k13, atI_nat (j := 0) k14, rb8, _, rfl, .inr (SqT.of k15), _, _, rfl, rfl, _, rfl, iteF (decide_eq_false (by rw [nvs_len, k12]; omega)) ?_⟩
            refine ⟨_, rfl, _, rfl, xs, bm, thinT, RR, 2, 1, fB.length, 1 + k1, rfl, ok28, hMs28, hbm, good_thin, GR, b4, by simp; omega, fun H29 vd e29 hvd => ?_⟩
            have hrow1 : [step RR 0 0] ∈ rowsL fB.length 1 := rowsL_mem.mpr ⟨rfl, fun x hx => by rw [List.mem_singleton.mp hx]; exact GR.form.step_lt zB (by omega)⟩
            obtain ⟨ad, rfl⟩ := hvd.ref ⟨_, hrow1, led_thin G1 Bb hlb GR⟩
            have C29 := ((C22.call e23).call (e2327.trans e28)).call e29
            obtain ⟨x9, t9, s9, ht9⟩ := C29.s
            have EE : Ext P w (tbK K) (CM K) (Hide p H) (Hide p H29) := ((((E1.trans E2).trans B3.e).trans (((e37.trans e711).hide s3))).trans C29.e)
            exact ⟨rfl, q H29 x9 t9 EE s9⟩
end
end K95
set_option Elab.async false
set_option linter.all false
set_option maxRecDepth 100000
set_option maxHeartbeats 4000000
set_option autoImplicit false
namespace K95
open PySem PySem.Spec PyProof.Rows L2
section
variable {P : Program} {w : World} {K : PySem.W.Frag} {mg : Str → Option Value} {base : Heap} {tb : Tbs}
def spLawR (P : Program) (w : World) (K : PySem.W.Frag) : Sp := fun vs H Q _ => ∃ (a : Addr) (ns : List Int), vs = [.ref a] ∧ SqL K H a (ns.map V.int) ∧ ns.length ≤ 63 ∧ Okk (tbK K) (CM K) H ∧ ∀ H', Q (.bl true) H'
theorem sc_d_law : FnScope ["_law_script", "_law_k"] ["_law_script"] d_law.scope := ⟨rfl, rfl, rfl, by decide +kernel, rfl, by decide +kernel, by decide +kernel⟩
-- ['_law_script', '_law_k'] cells []
theorem ok_law (T : Txt K mg) (hTB : ∀ p ∈ tfL, LamX.TabB base mg (He.cT K p).1 (He.cT K p).2) {fd : FuncData} (F : FunD K d_law.name d_law.qual d_law.params d_law.body d_law.scope [] [] (He.fAd K d_law.at_) fd) : FnOk P w K mg base CX0 13 (He.fAd K d_law.at_) fd ["_law_script"] (spLawR P w K) := by
  obtain ⟨f_law_right, fd_law_right, m_law_right, k_law_right, b_law_right, G_law_right⟩ := go_law_right (P := P) (w := w) (base := base) T hTB
  obtain ⟨f_law_source, fd_law_source, m_law_source, k_law_source, b_law_source, G_law_source⟩ := go_law_source (P := P) (w := w) (base := base) (tb := tbK K) T
  refine okN F sc_d_law (fun vs H Q E h => by
    obtain ⟨_, _, rfl, _⟩ := h
    rfl) fun cdv A outer s H vs Q E rm h => ?_
  obtain ⟨a, ns, rfl, ha, hl, ok, q⟩ := h
  refine ⟨_, (pss_cons (ps_for PassesOwn.never rfl (pi_range1 rfl T.n_range (pa_cons (pe_callB (call_max2 rfl) (by rfl) T.n_max boot_max (pa_cons pe_int (pa_cons (pe_callB (call_min2 rfl) (by rfl) T.n_min boot_min (pa_cons pe_int (pa_cons (pe_callB call_len_seq (by rfl) T.n_len boot_len (pa_cons (pv 0) pa_nil)) pa_nil))) pa_nil))) pa_nil)) (pg_name (i := 1) sc_d_law.nd rfl (Or.inl rfl))
      (pss_one (ps_if (pt_not (pt_val (pe_call G_law_right (rm.mono (by decide)) rfl m_law_right k_law_right b_law_right .nil pass0 (pa_cons (pe_call G_law_source (rm.mono (by decide)) rfl m_law_source k_law_source b_law_source .nil pass0 (pa_cons (pv 0) (pa_cons (pv 1) pa_nil))) pa_nil)))) (pss_one (ps_ret pe_bl)) pss_nil)))
      (pss_one (ps_ret pe_bl))), ?_⟩
  have hX : ∃ N : Nat, (if (if ((ns.map V.int).length : Int) < 3 then ((ns.map V.int).length : Int) else 3) > 1 then (if ((ns.map V.int).length : Int) < 3 then ((ns.map V.int).length : Int) else 3) else 1) = (N : Int) ∧ N ≤ 3 := by
    generalize (ns.map V.int).length = L
    by_cases h1 : (L : Int) < 3
    · rw [if_pos h1]
      by_cases h2 : (L : Int) > 1
      · rw [if_pos h2]
        exact ⟨L, rfl, by omega⟩
      · rw [if_neg h2]
        exact ⟨1, rfl, by omega⟩
    · rw [if_neg h1]
      exact ⟨3, rfl, by omega⟩
  obtain ⟨N, hN, hN3⟩ := hX
  refine ⟨_, rfl, a, _, rfl, .inl ha, _, _, rfl, _, _, rfl, (N : Int), by rw [hN], by omega, by omega, for_it walk_range (fun i σ H' => ∃ y1, σ = [some (.ref a), y1] ∧ Okk (tbK K) (CM K) H' ∧ SqL K H' a (ns.map V.int)) ⟨none, rfl, ok, ha⟩ (fun _ _ _ _ _ => trivial)
    (fun i y σ H' H1 hi ⟨y1, es, ok1, ha1⟩ hy => ?_) fun σ H' _ => q H'⟩
  obtain ⟨rfl, rfl⟩ := hy
  subst es
  have hi3 : i < N := hi
  refine ⟨_, rfl, _, rfl, a, ns, i, by show [V.ref a, V.int (0 + (i : Int))] ++ [] = _; rw [Int.zero_add]; rfl, ha1, by omega, by omega, fun H2 p e2 np ⟨x, hx⟩ => ?_⟩
  have ok2 := e2.ok ok1
  refine ⟨p, x, x, 0, rfl, ok2, hx, by omega, fun H3 x' t' e3 hs3 => ?_⟩
  refine ⟨_, rfl, iteF rfl ⟨_, rfl, (okk_hide hs3).mp (e3.ok ((okk_hide hx).mpr ok2)), ?_⟩⟩
  have key : ∀ o, plainO o = true → H1 a = some o → H3 a = some o := fun o ho h => by
    have hne := np.ne h ho
    have h2 := e2.keep a o h ho
    have h3 : Hide p H2 a = some o := by rw [hide_ne hne]; exact h2
    exact (hide_some (e3.keep a o h3 ho)).1
  rcases ha1 with (h | ⟨o, h⟩) | h
  · exact .inl (.inl (key _ rfl h))
  · exact .inl (.inr ⟨o, key _ rfl h⟩)
  · exact .inr h
end
/-! ### what is not known is forgotten -/
/-- no instance, no instance's dict -/
def forget (H : Hp) : Hp := fun b => match H b with
  | some (.ins _ _ _) => none
  | some (.own a) => match H a with
    | some (.ins _ _ _) => none
    | _ => some (.own a)
  | o => o
section
variable {H : Hp} {b a : Addr} {o : HO}
theorem forget_some (h : forget H b = some o) : H b = some o := by
  unfold forget at h
  split at h
  · cases h
  · rename_i x hx
    split at h
    · cases h
    · rw [hx]; exact h
  · exact h
theorem forget_none (h : H b = none) : forget H b = none := by
  unfold forget
  rw [h]
theorem forget_keep (h : H b = some o) (n1 : ∀ c dx fs, o ≠ .ins c dx fs) (n2 : ∀ a, o ≠ .own a) : forget H b = some o := by
  unfold forget
  rw [h]
  cases o with
  | ins c dx fs => exact absurd rfl (n1 c dx fs)
  | own a => exact absurd rfl (n2 a)
  | _ => rfl
theorem forget_no (c dx : Addr) (fs : List (Str × V)) : forget H b ≠ some (.ins c dx fs) := fun h => by
  have h1 := forget_some h
  unfold forget at h
  rw [h1] at h
  cases h
theorem forget_own (h : H b = some (.own a)) (n : ∀ c dx fs, H a ≠ some (.ins c dx fs)) : forget H b = some (.own a) := by
  unfold forget
  rw [h]
  show (match H a with
    | some (.ins _ _ _) => none
    | _ => some (HO.own a)) = some (.own a)
  split
  · rename_i c dx fs e
    exact absurd e (n c dx fs)
  · rfl
/-- what is forgotten -/
theorem forget_cases (h : H b = some o) (hf : forget H b = none) : (∃ c dx fs, o = .ins c dx fs) ∨ ∃ a, o = .own a := by
  cases o with
  | ins c dx fs => exact .inl ⟨c, dx, fs, rfl⟩
  | own a => exact .inr ⟨a, rfl⟩
  | _ =>
    rw [forget_keep h (fun _ _ _ z => by cases z) fun _ z => by cases z] at hf
    cases hf
end
/-- what was forgotten comes back -/
def back (H H' : Hp) : Hp := fun b => match H b, forget H b with
  | some o, none => some o
  | _, _ => H' b
section
variable {P : Program} {w : World} {H H' : Hp} {b a : Addr} {o : HO} {h h' : Heap}
theorem back_lost (e : H b = some o) (f : forget H b = none) : back H H' b = some o := by
  unfold back
  rw [e, f]
theorem back_kept (f : ¬ ((∃ o, H b = some o) ∧ forget H b = none)) : back H H' b = H' b := by
  unfold back
  split
  · rename_i o e1 e2
    exact absurd ⟨⟨o, e1⟩, e2⟩ f
  · rfl
theorem objOk_there (x : ObjOk P w H h a o) : ∃ u, h.get? a = some u := by
  cases o with
  | lst xs => obtain ⟨_, _, _, _, e⟩ := x; exact ⟨_, e⟩
  | tup xs => obtain ⟨_, _, _, o, e, _⟩ := x; exact ⟨_, e⟩
  | dK kvs => obtain ⟨_, _, _, _, o, _, _, e, _⟩ := x; exact ⟨_, e⟩
  | dT kvs => obtain ⟨_, _, _, _, o, _, _, e, _⟩ := x; exact ⟨_, e⟩
  | set S n => obtain ⟨o, _, _, _, e, _⟩ := x; exact ⟨_, e⟩
  | ins C dx fs => obtain ⟨_, _, _, e, _⟩ := x; exact ⟨_, e⟩
  | own y => exact x
  | xd fs => obtain ⟨_, ⟨_, _, _, e, _⟩, _⟩ := x; exact ⟨_, e⟩
  | rng lo hi => obtain ⟨_, _, _, e⟩ := x; exact ⟨_, e⟩
  | frz ob u => exact ⟨_, x.1⟩
  | tbl ps => exact ⟨_, x⟩
  | met f y => exact ⟨_, x⟩
  | ext φ => exact x.2.1
theorem forget_ok (ok : HOk P w H h) : HOk P w (forget H) h := fun a o e => by
  have h1 := forget_some e
  refine (ok a o h1).stay (fun _ _ _ z => z) (fun b hb => forget_own hb fun c dx fs z => ?_) fun b xs hb => forget_keep hb (fun _ _ _ z => by cases z) fun _ z => by cases z
  unfold forget at e
  rw [z] at e
  cases e
theorem FnOk.forget {K : PySem.W.Frag} {mg : Str → Option Value} {base : Heap} {k : Nat} {f : Addr} {fd : FuncData} {ps : List Str} {sp : Sp} (F : FnOk P w K mg base CX0 k f fd ps sp) : FnOk P w K mg base CX0 k f fd ps (fun vs H Q E => sp vs (K95.forget H) (fun v _ => ∀ H', Q v H') E) := by
  refine ⟨fun vs H Q E h => F.len _ _ _ _ h, fun A outer s H args us vs Q E hr he hb hv hs => ?_⟩
  have he' : Env0 P w K mg base A outer s (K95.forget H) := ⟨he.frames, he.mod, fun b o e => ⟨(he.bs b o e).1, forget_none (he.bs b o e).2⟩, he.bsz, he.funs, fun b hb => forget_none (he.frf b hb), forget_ok he.hok, he.bare⟩
  refine codeAny_mono (F.run A outer s (K95.forget H) args us vs _ E hr he' hb hv hs) fun r s' hr' => ?_
  cases r with
  | error e => exact hr'
  | ok fl =>
    cases fl with
    | ret u =>
      obtain ⟨v, H', os, bare, un, hok, rv, q⟩ := hr'
      have free : ∀ b, (∃ o, H b = some o) → K95.forget H b = none → H' b = none := fun b ⟨o, e⟩ f => by
        obtain ⟨u, hu⟩ := objOk_there (he.hok b o e)
        exact un.free b u hu f (by simp)
      have kept : ∀ {b o}, H b = some o → (∀ c dx fs, o ≠ .ins c dx fs) → (∀ a, o ≠ .own a) → back H H' b = H' b := fun {b o} e n1 n2 => back_kept fun z => by
        rw [forget_keep e n1 n2] at z
        cases z.2
      have tups : ∀ b xs, H b = some (.tup xs) → back H H' b = some (.tup xs) := fun b xs e => by
        rw [kept e (fun _ _ _ z => by cases z) fun _ z => by cases z]
        exact un.tups b xs (forget_keep e (fun _ _ _ z => by cases z) fun _ z => by cases z)
      refine ⟨v, back H H', os, bare, ⟨fun b o e n => un.keep b o e (forget_none n), fun b o e n => un.slot b o e (forget_none n), fun b o e n hx => ?_, un.there, tups, fun b o u e => ?_, fun b ps e => ?_⟩, fun a o e => ?_, rv, q _⟩
      · rw [back_kept fun z => by obtain ⟨⟨o, e1⟩, _⟩ := z; rw [n] at e1; cases e1]
        exact un.free b o e (forget_none n) hx
      · rw [kept e (fun _ _ _ z => by cases z) fun _ z => by cases z]
        exact un.frzs b o u (forget_keep e (fun _ _ _ z => by cases z) fun _ z => by cases z)
      · obtain ⟨more, e1⟩ := un.tbls b ps (forget_keep e (fun _ _ _ z => by cases z) fun _ z => by cases z)
        exact ⟨more, by rw [kept e (fun _ _ _ z => by cases z) fun _ z => by cases z]; exact e1⟩
      · by_cases lost : (∃ o, H a = some o) ∧ K95.forget H a = none
        · obtain ⟨⟨o1, e1⟩, f1⟩ := lost
          rw [back_lost e1 f1] at e
          cases e
          have x := he.hok a o e1
          have nf : ∀ b o, H b = some o → b ∉ frs outer := fun b o e z => by rw [he.frf b z] at e; cases e
          rcases forget_cases e1 f1 with ⟨c, dx, fs, rfl⟩ | ⟨a', rfl⟩
          · have lostO : ∀ b, H b = some (.own a) → K95.forget H b = none := fun b hb => by
              unfold K95.forget
              rw [hb]
              show (match H a with
                | some (.ins _ _ _) => none
                | _ => some (HO.own a)) = none
              rw [e1]
            refine x.stay (fun b u hb hu => ?_) (fun b hb => back_lost hb (lostO b hb)) tups
            rcases hb with rfl | hb
            · exact un.keep b u hu f1 (nf _ _ e1) (by simp)
            · exact un.keep b u hu (lostO b hb) (nf _ _ hb) (by simp)
          · obtain ⟨u, hu⟩ := x
            exact ⟨u, un.keep a u hu f1 (nf _ _ e1) (by simp)⟩
        · rw [back_kept lost] at e
          refine (hok a o e).stay (fun _ _ _ z => z) (fun b hb => ?_) fun b xs hb => ?_
          · rw [back_kept fun z => by rw [free b z.1 z.2] at hb; cases hb]
            exact hb
          · rw [back_kept fun z => by rw [free b z.1 z.2] at hb; cases hb]
            exact hb
    | _ => exact hr'.elim
end
section
variable {P : Program} {w : World} {K : PySem.W.Frag} {mg : Str → Option Value} {base : Heap}
theorem sqL_forget {H : Hp} {a : Addr} {xs : List V} (h : SqL K H a xs) : SqL K (forget H) a xs := by
  rcases h with (h | ⟨o, h⟩) | h
  · exact .inl (.inl (forget_keep h (fun _ _ _ z => by cases z) fun _ z => by cases z))
  · exact .inl (.inr ⟨o, forget_keep h (fun _ _ _ z => by cases z) fun _ z => by cases z⟩)
  · exact .inr h
theorem okk_forget {H : Hp} (h : ∀ p ∈ tfL, H (He.cT K p).2 = some (.tbl #[])) : Okk (tbK K) (CM K) (forget H) := by
  refine ⟨fun t ht => ?_, fun m1 m2 dx1 dx2 r1 r2 t1 t2 l1 l2 d h1 h2 => absurd h1 (forget_no _ _ _), fun m dx r t l d hm => absurd hm (forget_no _ _ _)⟩
  obtain ⟨q, hq, rfl⟩ := List.mem_map.mp ht
  refine ⟨#[], forget_keep (h q hq) (fun _ _ _ z => by cases z) (fun _ z => by cases z), ?_, fun pos cv hc => ?_⟩
  · exact trivial
  · cases hc
end
end K95
set_option Elab.async false
set_option linter.all false
set_option maxRecDepth 100000
set_option maxHeartbeats 0
namespace K95
open PySem PySem.Spec PyProof.Rows L2
abbrev R : PySem.W.OpenRow := PySem.W.OpenLaw.row PySem.Challenge.rw_letterfolds_k95_whole_divisions
abbrev hk : PySem.W.Hook := hookZ faL fnL tfL
def ob (s : PySem.W.SharedT) : AlZ := obsZ faL fnL tfL (HandSHeadRun.getT s)
theorem ob_eq (s : PySem.W.SharedT) : ob s = hk.obs s.abs := obsZ_g (HandSHeadRun.getT_eq s)
theorem runE (w : World) : HandSHeadRun.RunEq R (PySem.W.view R.prog [74]) hk ob 6000 namesA w := by
  intro os
  kernel_rfl

def spLaw (K : PySem.W.Frag) : Sp := fun vs H Q _ => ∃ (a : Addr) (ns : List Int), vs = [.ref a] ∧ SqL K H a (ns.map V.int) ∧ ns.length ≤ 63 ∧ (∀ z ∈ ns, Builtin.Int.intBits z ≤ 1048576) ∧ (∀ p ∈ tfL, H (He.cT K p).2 = some (.tbl #[])) ∧ ∀ H', Q (.bl true) H'
theorem law_any {P : Program} {w : World} {K : PySem.W.Frag} {h : Heap} {mg : Str → Option Value} {f : Addr} (X : K.In h) (G : h.Ns mainGlobals mg) (hfa : mg ("law" : Str) = some (.ref f)) (c : SaysZ faL fnL tfL h K) :
    ∃ fd : FuncData, (∀ (s : Shared) (v : Value), BindsTo s fd ⟨[v], []⟩ [("_law_script", v)]) ∧ ∀ base : Heap, K.In base → base.Ns mainGlobals mg → (∀ p ∈ tfL, LamX.TabB base mg (He.cT K p).1 (He.cT K p).2) → FnOk P w K mg base CX0 20 f fd ["_law_script"] (spLaw K) := by
  have T := c.txt X G
  obtain ⟨fd, F⟩ := T.fn 56
  have hf : f = He.fAd K d_law.at_ := by
    have h1 := T.g_law
    rw [hfa] at h1
    cases h1
    rfl
  subst hf
  refine ⟨fd, fun s v => ?_, fun base hk hg hTB => ((FnOk.forget (ok_law (P := P) (w := w) (base := base) T hTB F)).mono (by decide)).imp fun vs H Q E hsp => ?_⟩
  · exact F.bindsA (ps := ["_law_script"]) (fun _ _ _ _ _ _ us hl => match us, hl with | [_], _ => rfl) s [v] rfl
  · obtain ⟨a, ns, rfl, ha, hl, _, hT, q⟩ := hsp
    exact ⟨a, ns, rfl, sqL_forget ha, hl, okk_forget hT, fun _ H' => q H'⟩
end K95
open PySem PySem.W PySem.Calls PyProof.Rows
theorem PySem.Challenge.cw_letterfolds_k95_whole_divisions_holds : PySem.Challenge.rw_letterfolds_k95_whole_divisions.Holds := by
  w_on; o_law
  refine HandSHeadRun.head_any (r := OpenLaw.row PySem.Challenge.rw_letterfolds_k95_whole_divisions) (q := view (OpenLaw.row PySem.Challenge.rw_letterfolds_k95_whole_divisions).prog [74]) (H := K95.hk) (ob := K95.ob) (M := 6000) (loose := K95.namesA) (d := HandSHeadRun.topDef (OpenLaw.row PySem.Challenge.rw_letterfolds_k95_whole_divisions).prog 74) (kwd := []) K95.ob_eq
    (by kernel_rfl) (fun s => by kernel_rfl) K95.runE (by kernel_rfl) (by kernel_rfl) (by kernel_rfl) (by rfl) (by first | assumption | decide +kernel) (by decide +kernel) ⟨rfl, rfl, rfl, rfl, rfl, by decide +kernel⟩ ?hw ?hc
  case hw => w_witness2
  case hc =>
    refine LamX.walk_ofTsE (l := PySem.Challenge.rw_letterfolds_k95_whole_divisions) (n := 63) (k := 20) (x := "_law_script") (CX := fun _ => L2.CX0) rfl (by decide) (by kernel_rfl) ⟨rfl, by decide, by decide⟩ ?F (fun _ _ _ _ _ z => z)
    intro w mg fa h Y G hmg0
    obtain ⟨K, KX, c⟩ := Y
    have hmg : mg ("law" : PySem.Str) = some (.ref fa) := by
      have e : (HandSHeadRun.topDef (OpenLaw.row PySem.Challenge.rw_letterfolds_k95_whole_divisions).prog 74).name = ("law" : PySem.Str) := by kernel_rfl
      rw [← e]
      exact hmg0
    obtain ⟨fd, hb, hF⟩ := K95.law_any (P := (PySem.Challenge.rw_letterfolds_k95_whole_divisions).prog) (w := w) KX G hmg c
    refine ⟨K, KX, fd, K95.tfL.map (He.cT K), K95.spLaw K, ?_, ?_, ?_, hb, ?_, ?_⟩
    · intro p hp
      obtain ⟨q, hq, e⟩ := List.mem_map.mp hp
      rw [← e]
      exact c.empty q hq
    · intro p hp
      obtain ⟨q, hq, e⟩ := List.mem_map.mp hp
      rw [← e]
      exact c.out q hq
    · intro p hp
      obtain ⟨q, hq, e⟩ := List.mem_map.mp hp
      rw [← e]
      exact codeHd_of_K KX (c.hd q hq)
    · exact fun H a ns hl hb2 hT hS => ⟨a, ns, rfl, hS, hl, hb2, fun p hp => hT _ (List.mem_map.mpr ⟨p, hp, rfl⟩), fun _ => rfl⟩
    · exact fun base hk hg hTB => hF base hk hg fun p hp => hTB _ (List.mem_map.mpr ⟨p, hp, rfl⟩)
