import PyProof.Rows.All
import Wide.All
import OpenK.AllK
import Wide.FinOn
import HandS.Conv
import HandS.Deep
import HandS.DictComp
import HandS.DictEq
import HandS.Ends
import HandS.FStr
import HandS.ForMost
import HandS.IsInst
import HandS.Iter
import HandS.More
import HandS.OwnEq
import HandS.SetFor
import HandS.SetKeys
import HandS.SortInts
import HandS.StrMore
import HandS.Strs
import HandS.Text
import HandS.TupAny
import HandS.TupSets
import HandS.Words
import KE.GoesEnum
import KE.GoesNewDict
import KE.KDictCopyH
import KE.KDictPairs
import KE.KUnpackStar
import KE.SortData
import PyProof.DictMoreH
import PyProof.InstNe
import PyProof.NeKinds
import PyProof.SetRoads
import PySem.Challenge.RW_aheadfold_k49_whole_readers_written_and
set_option Elab.async false
section
set_option autoImplicit false
set_option linter.all false
namespace K49

abbrev W := Nat × List (Nat × Nat)
def pr (w : W) (a : Nat) : Nat × Nat := w.2.getD a (0, 0)
def be (w : W) (a : Nat) : Nat := (pr w a).1
def en (w : W) (a : Nat) : Nat := (pr w a).2
def outs (w : W) (r : Nat) : List Nat := (List.range w.2.length).filter fun a => decide (be w a = r)
def ins (w : W) (r : Nat) : List Nat := (List.range w.2.length).filter fun a => decide (en w a = r)
def onn (w : W) (a : Nat) : List Nat := outs w (en w a)

theorem pr_at {w : W} {a : Nat} (h : a < w.2.length) : w.2[a]? = some (pr w a) := by
  unfold pr
  rw [List.getD_eq_getElem?_getD, List.getElem?_eq_getElem h]
  rfl
theorem mem_outs {w : W} {r a : Nat} : a ∈ outs w r ↔ a < w.2.length ∧ be w a = r := by
  unfold outs
  rw [List.mem_filter, List.mem_range, decide_eq_true_eq]
theorem mem_ins {w : W} {r a : Nat} : a ∈ ins w r ↔ a < w.2.length ∧ en w a = r := by
  unfold ins
  rw [List.mem_filter, List.mem_range, decide_eq_true_eq]
theorem mem_onn {w : W} {a b : Nat} : b ∈ onn w a ↔ b < w.2.length ∧ be w b = en w a := mem_outs
theorem outs_lt (w : W) (r : Nat) : (outs w r).Pairwise (· < ·) := List.Pairwise.filter _ List.pairwise_lt_range
theorem ins_lt (w : W) (r : Nat) : (ins w r).Pairwise (· < ·) := List.Pairwise.filter _ List.pairwise_lt_range

structure WOk (w : W) : Prop where
  pos : 1 ≤ w.1
  rng : ∀ a, a < w.2.length → be w a < w.1 ∧ en w a < w.1
  out : ∀ r, r < w.1 → ∃ a, a < w.2.length ∧ be w a = r
theorem WOk.outs_ne {w : W} (h : WOk w) {r : Nat} (hr : r < w.1) : outs w r ≠ [] := by
  obtain ⟨a, ha, e⟩ := h.out r hr
  exact List.ne_nil_of_mem (mem_outs.mpr ⟨ha, e⟩)
theorem WOk.onn_ne {w : W} (h : WOk w) {a : Nat} (ha : a < w.2.length) : onn w a ≠ [] := h.outs_ne (h.rng a ha).2
theorem WOk.some_arrow {w : W} (h : WOk w) : 0 < w.2.length := by
  obtain ⟨a, ha, _⟩ := h.out 0 h.pos
  omega

/-! ### rows -/
def lst0 (r : List Nat) : Nat := r.getLastD 0
def rowsN (w : W) : Nat → List (List Nat)
  | 0 => (List.range w.2.length).map fun a => [a]
  | k + 1 => (rowsN w k).flatMap fun r => (onn w (lst0 r)).map fun a => r ++ [a]
def IsRow (w : W) (r : List Nat) : Prop :=
  (∀ a ∈ r, a < w.2.length) ∧ ∀ (i a b : Nat), r[i]? = some a → r[i + 1]? = some b → en w a = be w b

theorem lst0_append (r : List Nat) (a : Nat) : lst0 (r ++ [a]) = a := by
  unfold lst0
  simp
theorem lst0_mem {r : List Nat} (h : r ≠ []) : lst0 r ∈ r := by
  unfold lst0
  rw [List.getLastD_eq_getLast?, List.getLast?_eq_some_getLast h]
  exact List.getLast_mem h
theorem lst0_get {r : List Nat} (h : r ≠ []) : r[r.length - 1]? = some (lst0 r) := by
  unfold lst0
  rw [← List.getLast?_eq_getElem?, List.getLastD_eq_getLast?, List.getLast?_eq_some_getLast h]
  rfl
theorem isRow_snoc {w : W} {r : List Nat} {a : Nat} (hr : r ≠ []) : IsRow w (r ++ [a]) ↔ IsRow w r ∧ a ∈ onn w (lst0 r) := by
  have hl : 0 < r.length := List.length_pos_iff.mpr hr
  constructor
  · rintro ⟨h1, h2⟩
    refine ⟨⟨fun x hx => h1 x (List.mem_append_left _ hx), fun i x y e1 e2 => ?_⟩, ?_⟩
    · have i1 : i + 1 < r.length := (List.getElem?_eq_some_iff.mp e2).1
      exact h2 i x y (by rw [List.getElem?_append_left (by omega)]; exact e1) (by rw [List.getElem?_append_left i1]; exact e2)
    · refine mem_onn.mpr ⟨h1 a (by simp), (h2 (r.length - 1) (lst0 r) a ?_ ?_).symm⟩
      · rw [List.getElem?_append_left (by omega)]
        exact lst0_get hr
      · rw [List.getElem?_append_right (by omega)]
        have : r.length - 1 + 1 - r.length = 0 := by omega
        rw [this]
        rfl
  · rintro ⟨⟨h1, h2⟩, ha⟩
    obtain ⟨a1, a2⟩ := mem_onn.mp ha
    refine ⟨fun x hx => ?_, fun i x y e1 e2 => ?_⟩
    · rcases List.mem_append.mp hx with z | z
      · exact h1 x z
      · rw [List.mem_singleton.mp z]
        exact a1
    · by_cases c : i + 1 < r.length
      · rw [List.getElem?_append_left (by omega)] at e1
        rw [List.getElem?_append_left c] at e2
        exact h2 i x y e1 e2
      · have hi : i + 1 < (r ++ [a]).length := (List.getElem?_eq_some_iff.mp e2).1
        rw [List.length_append, List.length_singleton] at hi
        have ei : i = r.length - 1 := by omega
        rw [List.getElem?_append_left (by omega), ei, lst0_get hr] at e1
        rw [List.getElem?_append_right (by omega), ei] at e2
        have : r.length - 1 + 1 - r.length = 0 := by omega
        rw [this] at e2
        have ea : a = y := Option.some.inj e2
        have ex : lst0 r = x := Option.some.inj e1
        rw [← ea, ← ex]
        exact a2.symm
theorem isRow_one {w : W} {a : Nat} : IsRow w [a] ↔ a < w.2.length := by
  constructor
  · intro h
    exact h.1 a (by simp)
  · intro h
    refine ⟨fun x hx => ?_, fun i x y e1 e2 => ?_⟩
    · rw [List.mem_singleton.mp hx]
      exact h
    · have hi : i + 1 < ([a] : List Nat).length := (List.getElem?_eq_some_iff.mp e2).1
      simp at hi
theorem mem_rowsN {w : W} : ∀ {j : Nat} {r : List Nat}, r ∈ rowsN w j ↔ r.length = j + 1 ∧ IsRow w r
  | 0, r => by
    show r ∈ (List.range w.2.length).map (fun a => [a]) ↔ _
    rw [List.mem_map]
    constructor
    · rintro ⟨a, ha, rfl⟩
      exact ⟨rfl, isRow_one.mpr (List.mem_range.mp ha)⟩
    · rintro ⟨hl, h⟩
      obtain ⟨a, rfl⟩ := List.length_eq_one_iff.mp hl
      exact ⟨a, List.mem_range.mpr (isRow_one.mp h), rfl⟩
  | j + 1, r => by
    show r ∈ (rowsN w j).flatMap (fun r => (onn w (lst0 r)).map fun a => r ++ [a]) ↔ _
    rw [List.mem_flatMap]
    constructor
    · rintro ⟨p, hp, hr⟩
      obtain ⟨a, ha, rfl⟩ := List.mem_map.mp hr
      obtain ⟨hl, h⟩ := mem_rowsN.mp hp
      refine ⟨by rw [List.length_append, hl]; rfl, (isRow_snoc (by intro e; rw [e] at hl; simp at hl)).mpr ⟨h, ha⟩⟩
    · rintro ⟨hl, h⟩
      have hne : r ≠ [] := by
        intro e
        rw [e] at hl
        simp at hl
      have e := List.dropLast_concat_getLast hne
      have hd : r.dropLast.length = j + 1 := by
        rw [List.length_dropLast, hl]
        omega
      have hdn : r.dropLast ≠ [] := by
        intro e
        rw [e] at hd
        simp at hd
      rw [← e] at h
      obtain ⟨h1, h2⟩ := (isRow_snoc hdn).mp h
      refine ⟨r.dropLast, mem_rowsN.mpr ⟨hd, h1⟩, List.mem_map.mpr ⟨_, h2, e⟩⟩
theorem rowsN_ne {w : W} {j : Nat} {r : List Nat} (h : r ∈ rowsN w j) : r ≠ [] := by
  intro e
  have := (mem_rowsN.mp h).1
  rw [e] at this
  simp at this
theorem isRow_sub {w : W} {r : List Nat} (h : IsRow w r) (n : Nat) : IsRow w (r.take n) ∧ IsRow w (r.drop n) := by
  refine ⟨⟨fun a ha => h.1 a (List.mem_of_mem_take ha), fun i a b e1 e2 => ?_⟩, ⟨fun a ha => h.1 a (List.mem_of_mem_drop ha), fun i a b e1 e2 => ?_⟩⟩
  · rw [List.getElem?_take] at e1 e2
    split at e1
    · split at e2
      · exact h.2 i a b e1 e2
      · cases e2
    · cases e1
  · rw [List.getElem?_drop] at e1 e2
    exact h.2 (n + i) a b e1 (by rw [← e2]; congr 1)
theorem isRow_cut {w : W} {r : List Nat} (h : IsRow w r) (i n : Nat) : IsRow w ((r.drop i).take n) := (isRow_sub (isRow_sub h i).2 n).1

/-- rows rise -/
def lexLt : List Nat → List Nat → Prop := fun a b => a < b
theorem lex_snoc_lt {p : List Nat} {a b : Nat} (h : a < b) : p ++ [a] < p ++ [b] := by
  induction p with
  | nil => exact List.cons_lt_cons_iff.mpr (.inl h)
  | cons x p ih => exact List.cons_lt_cons_iff.mpr (.inr ⟨rfl, ih⟩)
theorem lex_app_lt : ∀ {p q : List Nat} {x y : List Nat}, p.length = q.length → p < q → p ++ x < q ++ y
  | [], [], _, _, _, h => absurd h (List.lt_irrefl _)
  | [], _ :: _, _, _, hl, _ => by simp at hl
  | _ :: _, [], _, _, hl, _ => by simp at hl
  | a :: p, b :: q, x, y, hl, h => by
    rcases List.cons_lt_cons_iff.mp h with z | ⟨z1, z2⟩
    · exact List.cons_lt_cons_iff.mpr (.inl z)
    · exact List.cons_lt_cons_iff.mpr (.inr ⟨z1, lex_app_lt (by simpa using hl) z2⟩)
theorem rowsN_lt (w : W) : ∀ j, (rowsN w j).Pairwise (· < ·)
  | 0 => by
    show ((List.range w.2.length).map fun a => [a]).Pairwise (· < ·)
    rw [List.pairwise_map]
    exact List.Pairwise.imp (fun h => List.cons_lt_cons_iff.mpr (.inl h)) List.pairwise_lt_range
  | j + 1 => by
    show ((rowsN w j).flatMap fun r => (onn w (lst0 r)).map fun a => r ++ [a]).Pairwise (· < ·)
    rw [List.pairwise_flatMap]
    refine ⟨fun p hp => ?_, ?_⟩
    · rw [List.pairwise_map]
      exact List.Pairwise.imp (fun h => lex_snoc_lt h) (outs_lt w _)
    · refine List.Pairwise.imp_of_mem (fun {p q} hp hq h => ?_) (rowsN_lt w j)
      intro x hx y hy
      obtain ⟨a, _, rfl⟩ := List.mem_map.mp hx
      obtain ⟨b, _, rfl⟩ := List.mem_map.mp hy
      exact lex_app_lt ((mem_rowsN.mp hp).1.trans (mem_rowsN.mp hq).1.symm) h
theorem rowsN_nodup (w : W) (j : Nat) : (rowsN w j).Nodup :=
  List.Pairwise.imp (fun {a b} (h : a < b) (e : a = b) => List.lt_irrefl b (e ▸ h)) (rowsN_lt w j)

/-! ### how many -/
def cnt (w : W) : Nat → List Nat
  | 0 => List.replicate w.1 1
  | k + 1 => (List.range w.1).map fun r => ((outs w r).map fun a => (cnt w k).getD (en w a) 0).sum
def many (w : W) (k : Nat) : Nat := (cnt w k).sum
theorem cnt_len (w : W) : ∀ k, (cnt w k).length = w.1
  | 0 => List.length_replicate
  | k + 1 => by
    show ((List.range w.1).map _).length = w.1
    rw [List.length_map, List.length_range]
abbrev cn (w : W) (k r : Nat) : Nat := (cnt w k).getD r 0
theorem cn_zero {w : W} {r : Nat} (h : r < w.1) : cn w 0 r = 1 := by
  show (List.replicate w.1 1).getD r 0 = 1
  rw [List.getD_eq_getElem?_getD, List.getElem?_replicate, if_pos h]
  rfl
theorem cn_succ {w : W} {k r : Nat} (h : r < w.1) : cn w (k + 1) r = ((outs w r).map fun a => cn w k (en w a)).sum := by
  show ((List.range w.1).map fun r => ((outs w r).map fun a => (cnt w k).getD (en w a) 0).sum).getD r 0 = _
  rw [List.getD_eq_getElem?_getD, List.getElem?_map, List.getElem?_range h]
  rfl
theorem le_sum : ∀ {l : List Nat} {x : Nat}, x ∈ l → x ≤ l.sum
  | y :: l, x, h => by
    rw [List.sum_cons]
    rcases List.mem_cons.mp h with e | h
    · omega
    · have := le_sum h
      omega
theorem cn_pos {w : W} (h : WOk w) : ∀ {k r : Nat}, r < w.1 → 1 ≤ cn w k r
  | 0, r, hr => Nat.le_of_eq (cn_zero hr).symm
  | k + 1, r, hr => by
    rw [cn_succ hr]
    obtain ⟨a, ha, e⟩ := h.out r hr
    have hm : cn w k (en w a) ∈ (outs w r).map fun a => cn w k (en w a) := List.mem_map.mpr ⟨a, mem_outs.mpr ⟨ha, e⟩, rfl⟩
    have h1 := cn_pos h (k := k) (h.rng a ha).2
    exact Nat.le_trans h1 (le_sum hm)
theorem cn_mono {w : W} (h : WOk w) : ∀ {k r : Nat}, r < w.1 → cn w k r ≤ cn w (k + 1) r
  | 0, r, hr => by
    rw [cn_zero hr]
    exact cn_pos h hr
  | k + 1, r, hr => by
    rw [cn_succ hr, cn_succ hr]
    have key : ∀ l : List Nat, (∀ a ∈ l, a < w.2.length) → (l.map fun a => cn w k (en w a)).sum ≤ (l.map fun a => cn w (k + 1) (en w a)).sum := by
      intro l
      induction l with
      | nil => intro _; exact Nat.le_refl _
      | cons x l ih =>
        intro hl
        rw [List.map_cons, List.map_cons, List.sum_cons, List.sum_cons]
        exact Nat.add_le_add (cn_mono h (h.rng x (hl x (by simp))).2) (ih fun a ha => hl a (List.mem_cons_of_mem _ ha))
    exact key _ fun a ha => (mem_outs.mp ha).1
theorem sum_le_of (l : List Nat) (f g : Nat → Nat) (h : ∀ a ∈ l, f a ≤ g a) : (l.map f).sum ≤ (l.map g).sum := by
  induction l with
  | nil => exact Nat.le_refl _
  | cons x l ih =>
    rw [List.map_cons, List.map_cons, List.sum_cons, List.sum_cons]
    exact Nat.add_le_add (h x (by simp)) (ih fun a ha => h a (List.mem_cons_of_mem _ ha))
theorem cnt_eq (w : W) (k : Nat) : cnt w k = (List.range w.1).map fun r => cn w k r := by
  apply List.ext_getElem?
  intro i
  rw [List.getElem?_map]
  by_cases hi : i < w.1
  · rw [List.getElem?_range hi]
    show _ = some ((cnt w k).getD i 0)
    rw [List.getD_eq_getElem?_getD, List.getElem?_eq_getElem (by rw [cnt_len]; exact hi)]
    rfl
  · rw [List.getElem?_eq_none (by rw [cnt_len]; omega), List.getElem?_eq_none (by rw [List.length_range]; omega)]
    rfl
theorem many_eq (w : W) (k : Nat) : many w k = ((List.range w.1).map fun r => cn w k r).sum := by
  unfold many
  rw [cnt_eq]
theorem many_mono1 {w : W} (h : WOk w) (k : Nat) : many w k ≤ many w (k + 1) := by
  rw [many_eq, many_eq]
  exact sum_le_of _ _ _ fun r hr => cn_mono h (List.mem_range.mp hr)
theorem many_mono {w : W} (h : WOk w) {j k : Nat} (hj : j ≤ k) : many w j ≤ many w k := by
  induction hj with
  | refl => exact Nat.le_refl _
  | step _ ih => exact Nat.le_trans ih (many_mono1 h _)
/-- all arrows, room by room -/
theorem sum_single (f : Nat → Nat) (x n : Nat) : x < n → ((List.range n).map fun r => if x = r then f r else 0).sum = f x := by
  intro hx
  induction n with
  | zero => omega
  | succ n ih =>
    rw [List.range_succ, List.map_append, List.sum_append]
    by_cases c : x < n
    · rw [ih c]
      have : ¬ x = n := by omega
      simp [this]
    · have e : x = n := by omega
      subst e
      have z : ∀ m, m ≤ x → ((List.range m).map fun r => if x = r then f r else 0).sum = 0 := by
        intro m
        induction m with
        | zero => intro _; rfl
        | succ m ihm =>
          intro hm
          rw [List.range_succ, List.map_append, List.sum_append, ihm (by omega)]
          have : ¬ x = m := by omega
          simp [this]
      rw [z x (Nat.le_refl _)]
      simp
theorem sum_add (l : List Nat) (f g : Nat → Nat) : (l.map fun r => f r + g r).sum = (l.map f).sum + (l.map g).sum := by
  induction l with
  | nil => rfl
  | cons x l ih =>
    rw [List.map_cons, List.map_cons, List.map_cons, List.sum_cons, List.sum_cons, List.sum_cons, ih]
    omega
theorem sum_zero : ∀ n : Nat, ((List.range n).map fun _ => 0).sum = 0
  | 0 => rfl
  | n + 1 => by
    rw [List.range_succ, List.map_append, List.sum_append, sum_zero n]
    rfl
theorem sum_parts (n : Nat) (g f : Nat → Nat) : ∀ (l : List Nat), (∀ a ∈ l, g a < n) →
    ((List.range n).map fun r => ((l.filter fun a => decide (g a = r)).map f).sum).sum = (l.map f).sum
  | [], _ => sum_zero n
  | x :: l, h => by
    have ih := sum_parts n g f l fun a ha => h a (List.mem_cons_of_mem _ ha)
    have e : ∀ r, (((x :: l).filter fun a => decide (g a = r)).map f).sum = (if g x = r then f x else 0) + ((l.filter fun a => decide (g a = r)).map f).sum := by
      intro r
      by_cases c : g x = r
      · rw [List.filter_cons_of_pos (by simp [c]), List.map_cons, List.sum_cons, if_pos c]
      · rw [List.filter_cons_of_neg (by simp [c]), if_neg c]
        omega
    have e2 : ((List.range n).map fun r => (((x :: l).filter fun a => decide (g a = r)).map f).sum) = (List.range n).map fun r => (if g x = r then f x else 0) + ((l.filter fun a => decide (g a = r)).map f).sum := List.map_congr_left fun r _ => e r
    rw [e2, sum_add, ih, List.map_cons, List.sum_cons]
    have := sum_single (fun _ => f x) (g x) n (h x (by simp))
    rw [this]
theorem ext_len {w : W} (h : WOk w) : ∀ (j k : Nat), (rowsN w (j + k)).length = ((rowsN w j).map fun r => cn w k (en w (lst0 r))).sum
  | j, 0 => by
    have e : ∀ l : List (List Nat), (∀ r ∈ l, en w (lst0 r) < w.1) → (l.map fun r => cn w 0 (en w (lst0 r))).sum = l.length := by
      intro l
      induction l with
      | nil => intro _; rfl
      | cons x l ih =>
        intro hl
        rw [List.map_cons, List.sum_cons, ih fun r hr => hl r (List.mem_cons_of_mem _ hr), cn_zero (hl x (by simp)), List.length_cons]
        omega
    rw [e]
    · rfl
    · intro r hr
      exact (h.rng _ ((mem_rowsN.mp hr).2.1 _ (lst0_mem (rowsN_ne hr)))).2
  | j, k + 1 => by
    have e1 : j + (k + 1) = (j + 1) + k := by omega
    rw [e1, ext_len h (j + 1) k]
    show (((rowsN w j).flatMap fun r => (onn w (lst0 r)).map fun a => r ++ [a]).map fun r => cn w k (en w (lst0 r))).sum = _
    have key : ∀ l : List (List Nat), (∀ r ∈ l, r ∈ rowsN w j) → ((l.flatMap fun r => (onn w (lst0 r)).map fun a => r ++ [a]).map fun r => cn w k (en w (lst0 r))).sum = (l.map fun r => cn w (k + 1) (en w (lst0 r))).sum := by
      intro l
      induction l with
      | nil => intro _; rfl
      | cons x l ih =>
        intro hl
        have hx := hl x (by simp)
        have hr : en w (lst0 x) < w.1 := (h.rng _ ((mem_rowsN.mp hx).2.1 _ (lst0_mem (rowsN_ne hx)))).2
        rw [List.flatMap_cons, List.map_append, List.sum_append, ih fun r hr => hl r (List.mem_cons_of_mem _ hr), List.map_cons, List.sum_cons, cn_succ hr, List.map_map]
        congr 1
        show ((outs w (en w (lst0 x))).map _).sum = _
        congr 1
        apply List.map_congr_left
        intro a _
        show cn w k (en w (lst0 (x ++ [a]))) = _
        rw [lst0_append]
    exact key _ fun _ hr => hr
theorem rowsN_len {w : W} (h : WOk w) (j : Nat) : (rowsN w j).length = many w (j + 1) := by
  have e := ext_len h 0 j
  rw [Nat.zero_add] at e
  rw [e, many_eq]
  show (((List.range w.2.length).map fun a => [a]).map fun r => cn w j (en w (lst0 r))).sum = _
  rw [List.map_map]
  have e2 : ((List.range w.1).map fun r => cn w (j + 1) r) = (List.range w.1).map fun r => (((List.range w.2.length).filter fun a => decide (be w a = r)).map fun a => cn w j (en w a)).sum :=
    List.map_congr_left fun r hr => cn_succ (List.mem_range.mp hr)
  rw [e2, sum_parts w.1 (be w) (fun a => cn w j (en w a)) (List.range w.2.length) fun a ha => (h.rng a (List.mem_range.mp ha)).1]
  rfl
theorem many_one {w : W} (h : WOk w) : many w 1 = w.2.length := by
  rw [← rowsN_len h 0]
  show ((List.range w.2.length).map _).length = _
  rw [List.length_map, List.length_range]
end K49
end
section
set_option autoImplicit false
set_option linter.all false
namespace K49

/-! ### readers: a table over the rows of j + 1 arrows -/
abbrev Tb := List Nat → Nat
structure Rd (w v : W) (j : Nat) (T : Tb) : Prop where
  val : ∀ r ∈ rowsN w j, T r < v.2.length
  fol : ∀ r ∈ rowsN w (j + 1), en v (T (r.take (j + 1))) = be v (T (r.drop 1))
def ext1 (w : W) (p : List Nat) : List Nat := p ++ [(onn w (lst0 p)).headD 0]
def dep (w : W) (j : Nat) (T : Tb) : Bool := (rowsN w (j + 1)).all fun r => T r == T (ext1 w r.dropLast)
def lst (w : W) : Nat → Tb → Nat × Tb
  | 0, T => (0, T)
  | j + 1, T => if dep w j T = true then lst w j (fun p => T (ext1 w p)) else (j + 1, T)

theorem headD_mem {l : List Nat} (h : l ≠ []) : l.headD 0 ∈ l := by
  cases l with
  | nil => exact absurd rfl h
  | cons x l => exact List.mem_cons_self
theorem rowsN_take {w : W} {j : Nat} {r : List Nat} (h : r ∈ rowsN w (j + 1)) : r.take (j + 1) ∈ rowsN w j := by
  obtain ⟨a, b⟩ := mem_rowsN.mp h
  refine mem_rowsN.mpr ⟨?_, (isRow_sub b _).1⟩
  rw [List.length_take]
  omega
theorem rowsN_drop {w : W} {j : Nat} {r : List Nat} (h : r ∈ rowsN w (j + 1)) : r.drop 1 ∈ rowsN w j := by
  obtain ⟨a, b⟩ := mem_rowsN.mp h
  refine mem_rowsN.mpr ⟨?_, (isRow_sub b _).2⟩
  rw [List.length_drop]
  omega
theorem dropLast_take {j : Nat} {r : List Nat} (h : r.length = j + 2) : r.dropLast = r.take (j + 1) := by
  rw [List.dropLast_eq_take, h]
  rfl
theorem rowsN_last {w : W} {j : Nat} {r : List Nat} (h : r ∈ rowsN w j) : lst0 r < w.2.length :=
  (mem_rowsN.mp h).2.1 _ (lst0_mem (rowsN_ne h))
theorem rowsN_snoc {w : W} {j : Nat} {r : List Nat} {a : Nat} (h : r ∈ rowsN w j) (ha : a ∈ onn w (lst0 r)) : r ++ [a] ∈ rowsN w (j + 1) := by
  obtain ⟨l, i⟩ := mem_rowsN.mp h
  refine mem_rowsN.mpr ⟨by rw [List.length_append, l]; rfl, (isRow_snoc (rowsN_ne h)).mpr ⟨i, ha⟩⟩
theorem ext1_mem {w : W} (ok : WOk w) {j : Nat} {r : List Nat} (h : r ∈ rowsN w j) : ext1 w r ∈ rowsN w (j + 1) :=
  rowsN_snoc h (headD_mem (ok.onn_ne (rowsN_last h)))
theorem ext1_drop (w : W) (p : List Nat) : (ext1 w p).dropLast = p := by
  unfold ext1
  rw [List.dropLast_concat]
theorem dep_iff {w : W} {j : Nat} {T : Tb} : dep w j T = true ↔ ∀ r ∈ rowsN w (j + 1), T r = T (ext1 w r.dropLast) := by
  unfold dep
  rw [List.all_eq_true]
  constructor
  · intro h r hr
    exact beq_iff_eq.mp (h r hr)
  · intro h r hr
    exact beq_iff_eq.mpr (h r hr)
/-- in other words: rows of like fronts are told alike -/
theorem dep_iff2 {w : W} (ok : WOk w) {j : Nat} {T : Tb} : dep w j T = true ↔ ∀ r ∈ rowsN w (j + 1), ∀ s ∈ rowsN w (j + 1), r.dropLast = s.dropLast → T r = T s := by
  rw [dep_iff]
  constructor
  · intro h r hr s hs e
    rw [h r hr, h s hs, e]
  · intro h r hr
    have h2 := mem_rowsN.mp hr
    have hd : r.dropLast ∈ rowsN w j := by
      rw [dropLast_take h2.1]
      exact rowsN_take hr
    exact h r hr _ (ext1_mem ok hd) (by rw [ext1_drop])
theorem Rd.less {w v : W} {j : Nat} {T : Tb} (ok : WOk w) (h : Rd w v (j + 1) T) (d : dep w j T = true) : Rd w v j (fun p => T (ext1 w p)) := by
  refine ⟨fun r hr => h.val _ (ext1_mem ok hr), fun r hr => ?_⟩
  have hl := (mem_rowsN.mp hr).1
  have e1 : T (ext1 w (r.take (j + 1))) = T r := by
    rw [← dropLast_take hl]
    exact (dep_iff.mp d r hr).symm
  have hd := rowsN_drop hr
  have ho := headD_mem (ok.onn_ne (rowsN_last hd))
  have el : lst0 (r.drop 1) = lst0 r := by
    unfold lst0
    rw [List.getLastD_eq_getLast?, List.getLastD_eq_getLast?, List.getLast?_drop, if_neg (by omega)]
  have hb : (onn w (lst0 (r.drop 1))).headD 0 ∈ onn w (lst0 r) := by
    rw [← el]
    exact ho
  have hs := rowsN_snoc hr hb
  have f := h.fol _ hs
  rw [List.take_left' (by rw [hl])] at f
  have e2 : (r ++ [(onn w (lst0 (r.drop 1))).headD 0]).drop 1 = ext1 w (r.drop 1) := by
    rw [List.drop_append_of_le_length (by omega)]
    rfl
  rw [e2] at f
  show en v (T (ext1 w (r.take (j + 1)))) = be v (T (ext1 w (r.drop 1)))
  rw [e1]
  exact f
theorem Rd.least {w v : W} (ok : WOk w) : ∀ {j : Nat} {T : Tb}, Rd w v j T → Rd w v (lst w j T).1 (lst w j T).2
  | 0, T, h => h
  | j + 1, T, h => by
    unfold lst
    by_cases d : dep w j T = true
    · rw [if_pos d]
      exact Rd.least ok (h.less ok d)
    · rw [if_neg d]
      exact h
theorem lst_le (w : W) : ∀ (j : Nat) (T : Tb), (lst w j T).1 ≤ j
  | 0, T => Nat.le_refl _
  | j + 1, T => by
    unfold lst
    by_cases d : dep w j T = true
    · rw [if_pos d]
      exact Nat.le_succ_of_le (lst_le w j _)
    · rw [if_neg d]
      exact Nat.le_refl _
def IsLst (w : W) (j : Nat) (T : Tb) : Prop := lst w j T = (j, T)
theorem lst_is (w : W) : ∀ (j : Nat) (T : Tb), IsLst w (lst w j T).1 (lst w j T).2
  | 0, T => rfl
  | j + 1, T => by
    by_cases d : dep w j T = true
    · have e : lst w (j + 1) T = lst w j (fun p => T (ext1 w p)) := by
        conv => lhs; unfold lst
        rw [if_pos d]
      rw [e]
      exact lst_is w j _
    · have e : lst w (j + 1) T = (j + 1, T) := by
        conv => lhs; unfold lst
        rw [if_neg d]
      rw [e]
      exact e
/-- wider by one -/
def wid (T : Tb) : Tb := fun r => T r.dropLast
theorem wid_dep (w : W) (j : Nat) (T : Tb) : dep w j (wid T) = true := by
  rw [dep_iff]
  intro r _
  show T r.dropLast = T (ext1 w r.dropLast).dropLast
  rw [ext1_drop]
theorem wid_lst (w : W) (j : Nat) (T : Tb) : lst w (j + 1) (wid T) = lst w j T := by
  conv => lhs; unfold lst
  rw [if_pos (wid_dep w j T)]
  congr 1
  funext p
  show T (ext1 w p).dropLast = T p
  rw [ext1_drop]
theorem Rd.wider {w v : W} {j : Nat} {T : Tb} (h : Rd w v j T) : Rd w v (j + 1) (wid T) := by
  have key : ∀ {k : Nat} {r : List Nat}, r ∈ rowsN w (k + 1) → r.dropLast ∈ rowsN w k := fun {k r} hr => by
    rw [dropLast_take (mem_rowsN.mp hr).1]
    exact rowsN_take hr
  refine ⟨fun r hr => h.val _ (key hr), fun r hr => ?_⟩
  have hl := (mem_rowsN.mp hr).1
  have f := h.fol _ (key hr)
  show en v (T (r.take (j + 1 + 1)).dropLast) = be v (T (r.drop 1).dropLast)
  have e1 : (r.take (j + 1 + 1)).dropLast = r.dropLast.take (j + 1) := by
    rw [List.dropLast_eq_take, List.dropLast_eq_take, List.length_take, List.take_take, List.take_take, hl]
    congr 1
    omega
  have e2 : (r.drop 1).dropLast = r.dropLast.drop 1 := by
    rw [List.dropLast_eq_take, List.dropLast_eq_take, List.drop_take, List.length_drop, hl]
  rw [e1, e2]
  exact f
theorem rd_congr {w v : W} {j : Nat} {T S : Tb} (h : Rd w v j T) (e : ∀ r ∈ rowsN w j, S r = T r) : Rd w v j S := by
  refine ⟨fun r hr => ?_, fun r hr => ?_⟩
  · rw [e r hr]
    exact h.val r hr
  · rw [e _ (rowsN_take hr), e _ (rowsN_drop hr)]
    exact h.fol r hr

/-! ### what a reader makes of a row; joined readers -/
def mkr (T : Tb) (j : Nat) (r : List Nat) : List Nat := (List.range (r.length - j)).map fun i => T ((r.drop i).take (j + 1))
theorem mkr_len (T : Tb) (j : Nat) (r : List Nat) : (mkr T j r).length = r.length - j := by
  unfold mkr
  rw [List.length_map, List.length_range]
theorem mkr_get (T : Tb) (j : Nat) (r : List Nat) (i : Nat) (h : i < r.length - j) : (mkr T j r)[i]? = some (T ((r.drop i).take (j + 1))) := by
  unfold mkr
  rw [List.getElem?_map, List.getElem?_range h]
  rfl
theorem cut_mem {w : W} {r : List Nat} {i j : Nat} (hr : IsRow w r) (h : i < r.length - j) : (r.drop i).take (j + 1) ∈ rowsN w j := by
  refine mem_rowsN.mpr ⟨?_, isRow_cut hr i _⟩
  rw [List.length_take, List.length_drop]
  omega
theorem Rd.mkr_row {w v : W} {j : Nat} {T : Tb} (h : Rd w v j T) {r : List Nat} (hr : IsRow w r) : IsRow v (mkr T j r) := by
  refine ⟨fun a ha => ?_, fun i a b e1 e2 => ?_⟩
  · obtain ⟨i, hi⟩ := List.mem_iff_getElem?.mp ha
    have hlt : i < r.length - j := by
      have := (List.getElem?_eq_some_iff.mp hi).1
      rw [mkr_len] at this
      exact this
    rw [mkr_get T j r i hlt] at hi
    rw [← Option.some.inj hi]
    exact h.val _ (cut_mem hr hlt)
  · have hlt : i + 1 < r.length - j := by
      have := (List.getElem?_eq_some_iff.mp e2).1
      rw [mkr_len] at this
      exact this
    rw [mkr_get T j r i (by omega)] at e1
    rw [mkr_get T j r (i + 1) hlt] at e2
    rw [← Option.some.inj e1, ← Option.some.inj e2]
    have hm : (r.drop i).take (j + 1 + 1) ∈ rowsN w (j + 1) := cut_mem (j := j + 1) hr (by omega)
    have f := h.fol _ hm
    have q1 : ((r.drop i).take (j + 1 + 1)).take (j + 1) = (r.drop i).take (j + 1) := by
      rw [List.take_take]
      congr 1
      omega
    have q2 : ((r.drop i).take (j + 1 + 1)).drop 1 = (r.drop (i + 1)).take (j + 1) := by
      rw [List.drop_take, List.drop_drop]
      congr 1
    rw [q1, q2] at f
    exact f
theorem mkr_take (T : Tb) (j n : Nat) (r : List Nat) (h : n ≤ r.length) (hj : j ≤ n) : mkr T j (r.take n) = (mkr T j r).take (n - j) := by
  apply List.ext_getElem?
  intro i
  rw [List.getElem?_take]
  by_cases c : i < n - j
  · rw [if_pos c, mkr_get T j r i (by omega), mkr_get T j _ i (by rw [List.length_take]; omega)]
    congr 2
    rw [List.drop_take, List.take_take]
    congr 1
    omega
  · rw [if_neg c, List.getElem?_eq_none (by rw [mkr_len, List.length_take]; omega)]
theorem mkr_drop (T : Tb) (j : Nat) (r : List Nat) : mkr T j (r.drop 1) = (mkr T j r).drop 1 := by
  apply List.ext_getElem?
  intro i
  rw [List.getElem?_drop]
  by_cases c : 1 + i < r.length - j
  · rw [mkr_get T j r (1 + i) c, mkr_get T j _ i (by rw [List.length_drop]; omega), List.drop_drop]
  · rw [List.getElem?_eq_none (by rw [mkr_len, List.length_drop]; omega), List.getElem?_eq_none (by rw [mkr_len]; omega)]
def jn (T1 : Tb) (j1 : Nat) (T2 : Tb) : Tb := fun r => T2 (mkr T1 j1 r)
theorem mkr_mem {w v : W} {j1 j2 : Nat} {T1 : Tb} (h : Rd w v j1 T1) {r : List Nat} (hr : r ∈ rowsN w (j1 + j2)) : mkr T1 j1 r ∈ rowsN v j2 := by
  obtain ⟨hl, hi⟩ := mem_rowsN.mp hr
  refine mem_rowsN.mpr ⟨?_, h.mkr_row hi⟩
  rw [mkr_len, hl]
  omega
theorem Rd.join {w v u : W} {j1 j2 : Nat} {T1 T2 : Tb} (h1 : Rd w v j1 T1) (h2 : Rd v u j2 T2) : Rd w u (j1 + j2) (jn T1 j1 T2) := by
  refine ⟨fun r hr => h2.val _ (mkr_mem h1 hr), fun r hr => ?_⟩
  have hl := (mem_rowsN.mp hr).1
  have hm : mkr T1 j1 r ∈ rowsN v (j2 + 1) := mkr_mem h1 (by rw [← Nat.add_assoc]; exact hr)
  have f := h2.fol _ hm
  show en u (T2 (mkr T1 j1 (r.take (j1 + j2 + 1)))) = be u (T2 (mkr T1 j1 (r.drop 1)))
  rw [mkr_take T1 j1 _ r (by omega) (by omega), mkr_drop]
  have e : j1 + j2 + 1 - j1 = j2 + 1 := by omega
  rw [e]
  exact f

/-! ### one arrow for one -/
def byA (arr : List Nat) : Tb := fun r => arr.getD (r.headD 0) 0
theorem rows0 {w : W} {r : List Nat} (h : r ∈ rowsN w 0) : ∃ a, a < w.2.length ∧ r = [a] := by
  obtain ⟨a, ha, e⟩ := List.mem_map.mp (show r ∈ (List.range w.2.length).map fun a => [a] from h)
  exact ⟨a, List.mem_range.mp ha, e.symm⟩
theorem rows1 {w : W} {r : List Nat} (h : r ∈ rowsN w 1) : ∃ a b, a < w.2.length ∧ b < w.2.length ∧ en w a = be w b ∧ r = [a, b] := by
  obtain ⟨p, hp, hr⟩ := List.mem_flatMap.mp (show r ∈ (rowsN w 0).flatMap fun r => (onn w (lst0 r)).map fun a => r ++ [a] from h)
  obtain ⟨a, ha, rfl⟩ := rows0 hp
  obtain ⟨b, hb, e⟩ := List.mem_map.mp hr
  obtain ⟨b1, b2⟩ := mem_onn.mp hb
  exact ⟨a, b, ha, b1, b2.symm, e.symm⟩
theorem rd_byA {w v : W} {arr : List Nat} (h1 : ∀ a, a < w.2.length → arr.getD a 0 < v.2.length)
    (h2 : ∀ a b, a < w.2.length → b < w.2.length → en w a = be w b → en v (arr.getD a 0) = be v (arr.getD b 0)) : Rd w v 0 (byA arr) := by
  refine ⟨fun r hr => ?_, fun r hr => ?_⟩
  · obtain ⟨a, ha, rfl⟩ := rows0 hr
    exact h1 a ha
  · obtain ⟨a, b, ha, hb, e, rfl⟩ := rows1 hr
    exact h2 a b ha hb e
theorem rd_same (w : W) : Rd w w 0 (byA (List.range w.2.length)) := by
  have g : ∀ a, a < w.2.length → (List.range w.2.length).getD a 0 = a := fun a ha => by
    rw [List.getD_eq_getElem?_getD, List.getElem?_range ha]
    rfl
  refine rd_byA (fun a ha => ?_) (fun a b ha hb e => ?_)
  · rw [g a ha]
    exact ha
  · rw [g a ha, g b hb]
    exact e
end K49
end
section
set_option autoImplicit false
set_option linter.all false
namespace K49

/-! ### a fold -/
def thr (w : W) (r x : Nat) : List Nat := (outs w r).filter fun a => decide (en w a = x)
theorem mem_thr {w : W} {r x a : Nat} : a ∈ thr w r x ↔ a < w.2.length ∧ be w a = r ∧ en w a = x := by
  unfold thr
  rw [List.mem_filter, mem_outs, decide_eq_true_eq, and_assoc]
theorem thr_nodup (w : W) (r x : Nat) : (thr w r x).Nodup := List.Pairwise.imp (fun h => Nat.ne_of_lt h) (List.Pairwise.filter _ (outs_lt w r))
/-- the begins of the arrows to a room -/
def col (w : W) (x : Nat) : List Nat := (ins w x).map (be w)
theorem thr_len (w : W) (r x : Nat) : (thr w r x).length = (col w x).count r := by
  unfold thr outs col ins
  rw [List.count_eq_countP, List.countP_map, List.countP_filter, List.filter_filter, List.countP_eq_length_filter]
  congr 1
  apply List.filter_congr
  intro a _
  show (decide (en w a = x) && decide (be w a = r)) = ((be w a == r) && decide (en w a = x))
  rw [Bool.and_comm]
  congr 1
def twL (w : W) (one other : Nat) (n : Nat) : List (Nat × Nat) := (List.range n).flatMap fun r => (thr w r other).zip (thr w r one)
theorem twL_succ (w : W) (one other n : Nat) : twL w one other (n + 1) = twL w one other n ++ (thr w n other).zip (thr w n one) := by
  unfold twL
  rw [List.range_succ, List.flatMap_append]
  simp
theorem mem_twL {w : W} {one other n : Nat} {p : Nat × Nat} (h : p ∈ twL w one other n) : ∃ r, r < n ∧ p.1 ∈ thr w r other ∧ p.2 ∈ thr w r one := by
  obtain ⟨r, hr, hp⟩ := List.mem_flatMap.mp h
  obtain ⟨a, b⟩ := p
  exact ⟨r, List.mem_range.mp hr, List.of_mem_zip hp⟩
/-- of columns alike the fronts of the pairs are all arrows to the other room -/
theorem twL_has {w : W} {one other n a : Nat} (hc : ∀ r, (thr w r other).length = (thr w r one).length) (h : a ∈ thr w (be w a) other) (hr : be w a < n) : ∃ b, (a, b) ∈ twL w one other n := by
  obtain ⟨i, hi⟩ := List.mem_iff_getElem?.mp h
  have hl := (List.getElem?_eq_some_iff.mp hi).1
  have hl2 : i < (thr w (be w a) one).length := by rw [← hc]; exact hl
  refine ⟨(thr w (be w a) one)[i], List.mem_flatMap.mpr ⟨be w a, List.mem_range.mpr hr, ?_⟩⟩
  have e : ((thr w (be w a) other).zip (thr w (be w a) one))[i]? = some (a, (thr w (be w a) one)[i]) := by
    rw [List.getElem?_zip_eq_some]
    exact ⟨hi, List.getElem?_eq_getElem hl2⟩
  exact List.mem_of_getElem? e
def twf (w : W) (one other a : Nat) : Option Nat := ((twL w one other w.1).find? fun p => decide (p.1 = a)).map (·.2)
def kept (w : W) (one other : Nat) : List Nat := (List.range w.2.length).filter fun a => (twf w one other a).isNone
def tg (w : W) (one other a : Nat) : Nat := (twf w one other a).getD a
def rm (one other x : Nat) : Nat := if x < other then x else if x = other then one else x - 1
def foldW (w : W) (one other : Nat) : W := (w.1 - 1, (kept w one other).map fun a => (rm one other (be w a), rm one other (en w a)))
def foldN (w : W) (one other : Nat) : List Nat := (List.range w.2.length).map fun a => (kept w one other).idxOf (tg w one other a)
structure FoldOk (w : W) (one other : Nat) : Prop where
  ok : WOk w
  lt : one < other
  rng : other < w.1
  cols : ∀ r, (thr w r other).length = (thr w r one).length
section
variable {w : W} {one other : Nat}
theorem twf_some {a b : Nat} (h : twf w one other a = some b) : (a < w.2.length ∧ en w a = other) ∧ b < w.2.length ∧ be w b = be w a ∧ en w b = one := by
  unfold twf at h
  obtain ⟨p, hp, e⟩ := Option.map_eq_some_iff.mp h
  have hm := List.mem_of_find?_eq_some hp
  have hq := List.find?_some hp
  have ea : p.1 = a := of_decide_eq_true hq
  obtain ⟨r, _, h1, h2⟩ := mem_twL hm
  rw [ea] at h1
  rw [e] at h2
  obtain ⟨x1, x2, x3⟩ := mem_thr.mp h1
  obtain ⟨y1, y2, y3⟩ := mem_thr.mp h2
  exact ⟨⟨x1, x3⟩, y1, y2.trans x2.symm, y3⟩
theorem mem_kept {a : Nat} : a ∈ kept w one other ↔ a < w.2.length ∧ twf w one other a = none := by
  unfold kept
  rw [List.mem_filter, List.mem_range, Option.isNone_iff_eq_none]
theorem tg_kept (hne : one ≠ other) {a : Nat} (ha : a < w.2.length) : tg w one other a ∈ kept w one other := by
  unfold tg
  cases h : twf w one other a with
  | none => exact mem_kept.mpr ⟨ha, h⟩
  | some b =>
    obtain ⟨_, h2, h3, h4⟩ := twf_some h
    refine mem_kept.mpr ⟨h2, ?_⟩
    show twf w one other b = none
    cases h5 : twf w one other b with
    | none => rfl
    | some c => exact absurd (h4.symm.trans (twf_some h5).1.2) hne
theorem tg_be (a : Nat) : be w (tg w one other a) = be w a := by
  unfold tg
  cases h : twf w one other a with
  | none => rfl
  | some b => exact (twf_some h).2.2.1
theorem tg_en (hlt : one < other) (a : Nat) : rm one other (en w (tg w one other a)) = rm one other (en w a) := by
  unfold tg
  cases h : twf w one other a with
  | none => rfl
  | some b =>
    obtain ⟨⟨_, h1⟩, _, _, h4⟩ := twf_some h
    show rm one other (en w b) = rm one other (en w a)
    rw [h4, h1]
    unfold rm
    rw [if_pos hlt, if_neg (Nat.lt_irrefl _), if_pos rfl]
theorem idx_at {l : List Nat} {x : Nat} (h : x ∈ l) : l[l.idxOf x]? = some x := by
  have hl := List.idxOf_lt_length_of_mem h
  rw [List.getElem?_eq_getElem hl, List.getElem_idxOf]
theorem foldW_len : (foldW w one other).2.length = (kept w one other).length := by
  unfold foldW
  rw [List.length_map]
theorem foldW_pr {i a : Nat} (h : (kept w one other)[i]? = some a) : pr (foldW w one other) i = (rm one other (be w a), rm one other (en w a)) := by
  unfold pr foldW
  rw [List.getD_eq_getElem?_getD, List.getElem?_map, h]
  rfl
theorem foldN_at {a : Nat} (ha : a < w.2.length) : (foldN w one other).getD a 0 = (kept w one other).idxOf (tg w one other a) := by
  unfold foldN
  rw [List.getD_eq_getElem?_getD, List.getElem?_map, List.getElem?_range ha]
  rfl
theorem foldN_pr (h : FoldOk w one other) {a : Nat} (ha : a < w.2.length) : pr (foldW w one other) ((foldN w one other).getD a 0) = (rm one other (be w a), rm one other (en w a)) := by
  rw [foldN_at ha, foldW_pr (idx_at (tg_kept (Nat.ne_of_lt h.lt) ha)), tg_be, tg_en h.lt]
theorem rm_lt {x : Nat} (h : FoldOk w one other) (hx : x < w.1) : rm one other x < w.1 - 1 := by
  have h1 := h.lt
  have h2 := h.rng
  unfold rm
  split
  · omega
  · split <;> omega
theorem fold_ok (h : FoldOk w one other) : WOk (foldW w one other) := by
  have h1 := h.lt
  have h2 := h.rng
  refine ⟨?_, fun i hi => ?_, fun r hr => ?_⟩
  · show 1 ≤ w.1 - 1
    omega
  · rw [foldW_len] at hi
    have e := foldW_pr (List.getElem?_eq_getElem hi)
    have hm : (kept w one other)[i] ∈ kept w one other := List.getElem_mem hi
    have hr := h.ok.rng _ (mem_kept.mp hm).1
    unfold be en
    rw [e]
    exact ⟨rm_lt h hr.1, rm_lt h hr.2⟩
  · have hr' : r < w.1 - 1 := hr
    obtain ⟨x, hx, ex⟩ : ∃ x, x < w.1 ∧ rm one other x = r := by
      by_cases c : r < other
      · exact ⟨r, by omega, by unfold rm; rw [if_pos c]⟩
      · refine ⟨r + 1, by omega, ?_⟩
        unfold rm
        rw [if_neg (by omega), if_neg (by omega)]
        omega
    obtain ⟨a, ha, ea⟩ := h.ok.out x hx
    refine ⟨(foldN w one other).getD a 0, ?_, ?_⟩
    · rw [foldN_at ha, foldW_len]
      exact List.idxOf_lt_length_of_mem (tg_kept (Nat.ne_of_lt h1) ha)
    · unfold be
      rw [foldN_pr h ha]
      show rm one other (be w a) = r
      rw [ea, ex]
theorem fold_rd (h : FoldOk w one other) : Rd w (foldW w one other) 0 (byA (foldN w one other)) := by
  refine rd_byA (fun a ha => ?_) (fun a b ha hb e => ?_)
  · rw [foldN_at ha, foldW_len]
    exact List.idxOf_lt_length_of_mem (tg_kept (Nat.ne_of_lt h.lt) ha)
  · unfold en be
    rw [foldN_pr h ha, foldN_pr h hb]
    show rm one other (en w a) = rm one other (be w b)
    rw [e]
theorem kept_le : (kept w one other).length ≤ w.2.length := by
  have := List.length_filter_le (fun a => (twf w one other a).isNone) (List.range w.2.length)
  rw [List.length_range] at this
  exact this
end

/-! ### a split -/
def splB (w : W) (part : List Nat) : List (Nat × Nat) := (List.range w.2.length).map fun a => if a ∈ part then (w.1, en w a) else pr w a
def splE (w : W) (room : Nat) : List Nat := List.range w.2.length ++ ins w room
def splW (w : W) (room : Nat) (part : List Nat) : W := (w.1 + 1, splB w part ++ (ins w room).map fun a => (((splB w part).getD a (0, 0)).1, w.1))
structure SplOk (w : W) (room : Nat) (part : List Nat) : Prop where
  ok : WOk w
  rng : room < w.1
  sub : ∀ a ∈ part, a ∈ outs w room
  ne : part ≠ []
  few : ∃ a ∈ outs w room, a ∉ part
section
variable {w : W} {room : Nat} {part : List Nat}
theorem splB_len : (splB w part).length = w.2.length := by
  unfold splB
  rw [List.length_map, List.length_range]
theorem splB_at {a : Nat} (ha : a < w.2.length) : (splB w part).getD a (0, 0) = if a ∈ part then (w.1, en w a) else pr w a := by
  unfold splB
  rw [List.getD_eq_getElem?_getD, List.getElem?_map, List.getElem?_range ha]
  rfl
theorem splW_len : (splW w room part).2.length = w.2.length + (ins w room).length := by
  show (splB w part ++ (ins w room).map _).length = _
  rw [List.length_append, List.length_map, splB_len]
theorem splE_len : (splE w room).length = w.2.length + (ins w room).length := by
  unfold splE
  rw [List.length_append, List.length_range]
theorem splW_old {a : Nat} (ha : a < w.2.length) : pr (splW w room part) a = if a ∈ part then (w.1, en w a) else pr w a := by
  rw [← splB_at ha]
  show (splB w part ++ (ins w room).map _).getD a (0, 0) = _
  rw [List.getD_eq_getElem?_getD, List.getD_eq_getElem?_getD, List.getElem?_append_left (by rw [splB_len]; exact ha)]
theorem splW_new {i a : Nat} (h : (ins w room)[i]? = some a) : pr (splW w room part) (w.2.length + i) = (be (splW w room part) a, w.1) := by
  have hi := (List.getElem?_eq_some_iff.mp h).1
  have ha : a < w.2.length := (mem_ins.mp (List.mem_of_getElem? h)).1
  have e : be (splW w room part) a = ((splB w part).getD a (0, 0)).1 := by
    unfold be
    rw [splW_old ha, splB_at ha]
  rw [e]
  show (splB w part ++ (ins w room).map _).getD (w.2.length + i) (0, 0) = _
  rw [List.getD_eq_getElem?_getD, List.getElem?_append_right (by rw [splB_len]; omega), splB_len]
  have e2 : w.2.length + i - w.2.length = i := by omega
  rw [e2, List.getElem?_map, h]
  rfl
theorem splE_old {a : Nat} (ha : a < w.2.length) : (splE w room)[a]? = some a := by
  unfold splE
  rw [List.getElem?_append_left (by rw [List.length_range]; exact ha), List.getElem?_range ha]
theorem splE_new {i : Nat} : (splE w room)[w.2.length + i]? = (ins w room)[i]? := by
  unfold splE
  rw [List.getElem?_append_right (by rw [List.length_range]; omega), List.length_range]
  congr 1
  omega
/-- the places of the copies of an arrow -/
def cpL (w : W) (room : Nat) (part : List Nat) (a : Nat) : List Nat :=
  (List.range (splE w room).length).filter fun i => decide ((splE w room).getD i 0 = a) && decide (en (splW w room part) i = w.1)
def cp (w : W) (room : Nat) (part : List Nat) (a : Nat) : Nat := (cpL w room part a).headD 0
theorem old_en {a : Nat} (ha : a < w.2.length) : en (splW w room part) a = en w a := by
  unfold en
  rw [splW_old ha]
  split <;> rfl
theorem old_be {a : Nat} (ha : a < w.2.length) : be (splW w room part) a = if a ∈ part then w.1 else be w a := by
  unfold be
  rw [splW_old ha]
  split <;> rfl
theorem cpL_ne {a : Nat} (h : a ∈ ins w room) : cpL w room part a ≠ [] := by
  obtain ⟨i, hi⟩ := List.mem_iff_getElem?.mp h
  have hl := (List.getElem?_eq_some_iff.mp hi).1
  refine List.ne_nil_of_mem (a := w.2.length + i) ?_
  unfold cpL
  rw [List.mem_filter, List.mem_range, splE_len, Bool.and_eq_true, decide_eq_true_eq, decide_eq_true_eq]
  refine ⟨by omega, ?_, ?_⟩
  · rw [List.getD_eq_getElem?_getD, splE_new, hi]
    rfl
  · unfold en
    rw [splW_new hi]
theorem cp_is (ok : WOk w) {a : Nat} (h : a ∈ ins w room) : cp w room part a < (splW w room part).2.length ∧ en (splW w room part) (cp w room part a) = w.1 ∧ be (splW w room part) (cp w room part a) = be (splW w room part) a := by
  have hm : cp w room part a ∈ cpL w room part a := headD_mem (cpL_ne h)
  generalize cp w room part a = c at hm
  unfold cpL at hm
  rw [List.mem_filter, List.mem_range, splE_len, Bool.and_eq_true, decide_eq_true_eq, decide_eq_true_eq] at hm
  obtain ⟨h1, h2, h3⟩ := hm
  refine ⟨by rw [splW_len]; exact h1, h3, ?_⟩
  by_cases hc : c < w.2.length
  · rw [old_en hc] at h3
    exact absurd (ok.rng c hc).2 (by omega)
  · obtain ⟨i, rfl⟩ : ∃ i, c = w.2.length + i := ⟨c - w.2.length, by omega⟩
    have hi : i < (ins w room).length := by omega
    rw [List.getD_eq_getElem?_getD, splE_new, List.getElem?_eq_getElem hi] at h2
    have e : (ins w room)[i] = a := h2
    show (pr (splW w room part) (w.2.length + i)).1 = _
    rw [splW_new (List.getElem?_eq_getElem hi), e]
def splT (w : W) (room : Nat) (part : List Nat) : Tb := fun r => if r.getD 1 0 ∈ part then cp w room part (r.getD 0 0) else r.getD 0 0
theorem rows2 {w : W} {r : List Nat} (h : r ∈ rowsN w 2) : ∃ a b c, (a < w.2.length ∧ b < w.2.length ∧ c < w.2.length) ∧ en w a = be w b ∧ en w b = be w c ∧ r = [a, b, c] := by
  obtain ⟨p, hp, hr⟩ := List.mem_flatMap.mp (show r ∈ (rowsN w 1).flatMap fun r => (onn w (lst0 r)).map fun a => r ++ [a] from h)
  obtain ⟨a, b, ha, hb, e, rfl⟩ := rows1 hp
  obtain ⟨c, hc, e2⟩ := List.mem_map.mp hr
  obtain ⟨b1, b2⟩ := mem_onn.mp hc
  exact ⟨a, b, c, ⟨ha, hb, b1⟩, e, b2.symm, e2.symm⟩
theorem spl_in (h : SplOk w room part) {a b : Nat} (ha : a < w.2.length) (e : en w a = be w b) (hb : b ∈ part) : a ∈ ins w room :=
  mem_ins.mpr ⟨ha, by rw [e]; exact (mem_outs.mp (h.sub b hb)).2⟩
theorem splT_val (h : SplOk w room part) {a b : Nat} (ha : a < w.2.length) (e : en w a = be w b) : splT w room part [a, b] < (splW w room part).2.length := by
  show (if b ∈ part then cp w room part a else a) < _
  split
  · rename_i hb
    exact (cp_is h.ok (spl_in h ha e hb)).1
  · rw [splW_len]
    omega
theorem spl_rd (h : SplOk w room part) : Rd w (splW w room part) 1 (splT w room part) := by
  refine ⟨fun r hr => ?_, fun r hr => ?_⟩
  · obtain ⟨a, b, ha, hb, e, rfl⟩ := rows1 hr
    exact splT_val h ha e
  · obtain ⟨a, b, c, ⟨ha, hb, hc⟩, e1, e2, rfl⟩ := rows2 hr
    show en (splW w room part) (if b ∈ part then cp w room part a else a) = be (splW w room part) (if c ∈ part then cp w room part b else b)
    have r2 : be (splW w room part) (if c ∈ part then cp w room part b else b) = be (splW w room part) b := by
      split
      · rename_i hcp
        exact (cp_is h.ok (spl_in h hb e2 hcp)).2.2
      · rfl
    rw [r2, old_be hb]
    by_cases hbp : b ∈ part
    · rw [if_pos hbp, if_pos hbp]
      exact (cp_is h.ok (spl_in h ha e1 hbp)).2.1
    · rw [if_neg hbp, if_neg hbp, old_en ha]
      exact e1
theorem spl_ok (h : SplOk w room part) : WOk (splW w room part) := by
  refine ⟨Nat.succ_le_succ (Nat.zero_le _), fun a ha => ?_, fun r hr => ?_⟩
  · show be _ a < w.1 + 1 ∧ en _ a < w.1 + 1
    have old : ∀ a, a < w.2.length → be (splW w room part) a < w.1 + 1 ∧ en (splW w room part) a < w.1 + 1 := fun a ha => by
      obtain ⟨r1, r2⟩ := h.ok.rng a ha
      rw [old_be ha, old_en ha]
      refine ⟨?_, by omega⟩
      split <;> omega
    by_cases c : a < w.2.length
    · exact old a c
    · obtain ⟨i, rfl⟩ : ∃ i, a = w.2.length + i := ⟨a - w.2.length, by omega⟩
      rw [splW_len] at ha
      have hi : i < (ins w room).length := by omega
      have e := splW_new (part := part) (List.getElem?_eq_getElem hi)
      have hm := (mem_ins.mp (List.getElem_mem hi)).1
      have e1 : be (splW w room part) (w.2.length + i) = be (splW w room part) (ins w room)[i] := by
        show (pr _ _).1 = _
        rw [e]
      have e2 : en (splW w room part) (w.2.length + i) = w.1 := by
        show (pr _ _).2 = _
        rw [e]
      rw [e1, e2]
      exact ⟨(old _ hm).1, Nat.lt_succ_self _⟩
  · have hr' : r < w.1 + 1 := hr
    have old : ∀ a, a < w.2.length → a < (splW w room part).2.length := fun a ha => by
      rw [splW_len]
      omega
    by_cases c : r = w.1
    · cases hp : part with
      | nil => exact absurd hp h.ne
      | cons a l =>
        have ha : a ∈ part := by rw [hp]; exact List.mem_cons_self
        have hl := (mem_outs.mp (h.sub a ha)).1
        rw [← hp]
        exact ⟨a, old a hl, by rw [old_be hl, if_pos ha, c]⟩
    · by_cases d : r = room
      · obtain ⟨a, ha, hn⟩ := h.few
        obtain ⟨h1, h2⟩ := mem_outs.mp ha
        exact ⟨a, old a h1, by rw [old_be h1, if_neg hn, h2, d]⟩
      · obtain ⟨a, ha, e⟩ := h.ok.out r (by omega)
        refine ⟨a, old a ha, ?_⟩
        rw [old_be ha, if_neg, e]
        intro hp
        exact d (e.symm.trans (mem_outs.mp (h.sub a hp)).2)
end

/-! ### other names -/
structure NamOk (w v : W) (rooms arrs : List Nat) : Prop where
  ok : WOk w
  r : rooms.Perm (List.range w.1)
  a : arrs.Perm (List.range w.2.length)
  n : v.1 = w.1
  len : v.2.length = w.2.length
  at_ : ∀ a, a < w.2.length → pr v (arrs.getD a 0) = (rooms.getD (be w a) 0, rooms.getD (en w a) 0)
theorem perm_get {l : List Nat} {n : Nat} (h : l.Perm (List.range n)) {i : Nat} (hi : i < n) : l.getD i 0 < n ∧ l[i]? = some (l.getD i 0) := by
  have hl : l.length = n := by rw [h.length_eq, List.length_range]
  have e : l[i]? = some (l.getD i 0) := by
    rw [List.getD_eq_getElem?_getD, List.getElem?_eq_getElem (by rw [hl]; exact hi)]
    rfl
  exact ⟨List.mem_range.mp (h.mem_iff.mp (List.mem_of_getElem? e)), e⟩
theorem perm_has {l : List Nat} {n : Nat} (h : l.Perm (List.range n)) {x : Nat} (hx : x < n) : ∃ i, i < n ∧ l.getD i 0 = x := by
  have hl : l.length = n := by rw [h.length_eq, List.length_range]
  obtain ⟨i, hi⟩ := List.mem_iff_getElem?.mp (h.mem_iff.mpr (List.mem_range.mpr hx))
  refine ⟨i, by rw [← hl]; exact (List.getElem?_eq_some_iff.mp hi).1, ?_⟩
  rw [List.getD_eq_getElem?_getD, hi]
  rfl
section
variable {w v : W} {rooms arrs : List Nat}
theorem nam_ok (h : NamOk w v rooms arrs) : WOk v := by
  refine ⟨by rw [h.n]; exact h.ok.pos, fun i hi => ?_, fun r hr => ?_⟩
  · rw [h.len] at hi
    obtain ⟨a, ha, e⟩ := perm_has h.a hi
    have hr := h.ok.rng a ha
    unfold be en
    rw [← e, h.at_ a ha, h.n]
    exact ⟨(perm_get h.r hr.1).1, (perm_get h.r hr.2).1⟩
  · rw [h.n] at hr
    obtain ⟨x, hx, e⟩ := perm_has h.r hr
    obtain ⟨a, ha, ea⟩ := h.ok.out x hx
    refine ⟨arrs.getD a 0, by rw [h.len]; exact (perm_get h.a ha).1, ?_⟩
    unfold be
    rw [h.at_ a ha]
    show rooms.getD (be w a) 0 = r
    rw [ea, e]
theorem nam_rd (h : NamOk w v rooms arrs) : Rd w v 0 (byA arrs) := by
  refine rd_byA (fun a ha => by rw [h.len]; exact (perm_get h.a ha).1) (fun a b ha hb e => ?_)
  unfold en be
  rw [h.at_ a ha, h.at_ b hb]
  show rooms.getD (en w a) 0 = rooms.getD (be w b) 0
  rw [e]
end

/-! ### a blur -/
structure BluOk (w v : W) (rooms some : List Nat) (arrs : List Nat) : Prop where
  ok : WOk w
  rl : rooms.length = w.1
  nd : some.Nodup
  mem : ∀ x, x ∈ some ↔ x ∈ rooms
  n : v.1 = some.length
  arr : ∀ a, a < w.2.length → arrs.getD a 0 < v.2.length
  at_ : ∀ a, a < w.2.length → pr v (arrs.getD a 0) = (some.idxOf (rooms.getD (be w a) 0), some.idxOf (rooms.getD (en w a) 0))
  rng : ∀ a, a < v.2.length → be v a < v.1 ∧ en v a < v.1
section
variable {w v : W} {rooms some arrs : List Nat}
theorem blu_ok (h : BluOk w v rooms some arrs) : WOk v := by
  refine ⟨?_, h.rng, fun r hr => ?_⟩
  · obtain ⟨a, ha, _⟩ := h.ok.out 0 h.ok.pos
    have := h.rng _ (h.arr a ha)
    omega
  · rw [h.n] at hr
    have hm : some[r] ∈ rooms := (h.mem _).mp (List.getElem_mem hr)
    obtain ⟨x, hx⟩ := List.mem_iff_getElem?.mp hm
    have hl := (List.getElem?_eq_some_iff.mp hx).1
    rw [h.rl] at hl
    obtain ⟨a, ha, ea⟩ := h.ok.out x hl
    refine ⟨arrs.getD a 0, h.arr a ha, ?_⟩
    unfold be
    rw [h.at_ a ha]
    show some.idxOf (rooms.getD (be w a) 0) = r
    rw [ea, List.getD_eq_getElem?_getD, hx]
    show some.idxOf some[r] = r
    exact h.nd.idxOf_getElem r hr
theorem blu_rd (h : BluOk w v rooms some arrs) : Rd w v 0 (byA arrs) := by
  refine rd_byA h.arr (fun a b ha hb e => ?_)
  unfold en be
  rw [h.at_ a ha, h.at_ b hb]
  show some.idxOf (rooms.getD (en w a) 0) = some.idxOf (rooms.getD (be w b) 0)
  rw [e]
end
end K49
end
section
set_option linter.all false
namespace K49
/-! ### the rows by their beginnings, one after another -/
def pre (w : W) (j i : Nat) : List (List Nat) := ((rowsN w j).take i).flatMap fun r => (onn w (lst0 r)).map fun a => r ++ [a]
theorem pre_succ {w : W} {j i : Nat} {r : List Nat} (h : (rowsN w j)[i]? = some r) : pre w j (i + 1) = pre w j i ++ (onn w (lst0 r)).map fun a => r ++ [a] := by
  unfold pre
  rw [List.take_add_one, h, List.flatMap_append]
  show _ ++ List.flatMap _ [r] = _
  rw [List.flatMap_cons, List.flatMap_nil, List.append_nil]
theorem pre_full (w : W) (j : Nat) : pre w j (rowsN w j).length = rowsN w (j + 1) := by
  unfold pre
  rw [List.take_length]
  rfl
theorem pre_split (w : W) (j i : Nat) : ∃ l, rowsN w (j + 1) = pre w j i ++ l := by
  refine ⟨((rowsN w j).drop i).flatMap fun r => (onn w (lst0 r)).map fun a => r ++ [a], ?_⟩
  show (rowsN w j).flatMap _ = _
  unfold pre
  rw [← List.flatMap_append, List.take_append_drop]
theorem pre_le (w : W) (j i : Nat) : (pre w j i).length ≤ (rowsN w (j + 1)).length := by
  obtain ⟨l, e⟩ := pre_split w j i
  rw [e, List.length_append]
  omega
theorem pre_at {w : W} {j i k : Nat} (h : k < (pre w j i).length) : (rowsN w (j + 1))[k]? = (pre w j i)[k]? := by
  obtain ⟨l, e⟩ := pre_split w j i
  rw [e, List.getElem?_append_left h]
/-- i rows looked at, m beginnings met, each row as its beginning's first -/
structure LInv (w : W) (j : Nat) (T : Tb) (i m : Nat) : Prop where
  mx : m ≤ (rowsN w j).length
  le : i ≤ (pre w j m).length
  lt : 0 < m → (pre w j (m - 1)).length < i
  ok : ∀ k r, k < i → (rowsN w (j + 1))[k]? = some r → T r = T (ext1 w r.dropLast)
theorem LInv.zero (w : W) (j : Nat) (T : Tb) : LInv w j T 0 0 := ⟨Nat.zero_le _, Nat.zero_le _, fun h => absurd h (Nat.lt_irrefl _), fun k r h => absurd h (Nat.not_lt_zero _)⟩
theorem onn_head {w : W} (ok : WOk w) {j : Nat} {p : List Nat} (hp : p ∈ rowsN w j) : ∃ l, onn w (lst0 p) = (onn w (lst0 p)).headD 0 :: l := by
  have := ok.onn_ne (rowsN_last hp)
  cases h : onn w (lst0 p) with
  | nil => exact absurd h this
  | cons a l => exact ⟨l, rfl⟩
/-- the next row begins anew -/
theorem LInv.new {w : W} (ok : WOk w) {j : Nat} {T : Tb} {i m : Nat} (L : LInv w j T i m) {r : List Nat} (hr : (rowsN w (j + 1))[i]? = some r) (e : i = (pre w j m).length) :
    ∃ p, (rowsN w j)[m]? = some p ∧ r = ext1 w p ∧ r.dropLast = p ∧ LInv w j T (i + 1) (m + 1) := by
  have hm : m < (rowsN w j).length := by
    rcases Nat.lt_or_ge m (rowsN w j).length with h | h
    · exact h
    · have : m = (rowsN w j).length := Nat.le_antisymm L.mx h
      rw [this, pre_full] at e
      rw [e, List.getElem?_eq_none (Nat.le_refl _)] at hr
      cases hr
  have hp := List.getElem?_eq_getElem hm
  refine ⟨(rowsN w j)[m], hp, ?_⟩
  generalize (rowsN w j)[m] = p at hp
  have hmem := List.mem_of_getElem? hp
  obtain ⟨l, hl⟩ := onn_head ok hmem
  have hs := pre_succ hp
  have hlen : (pre w j (m + 1)).length = (pre w j m).length + (l.length + 1) := by
    rw [hs, List.length_append, List.length_map, hl]
    rfl
  have hr' : r = ext1 w p := by
    rw [pre_at (i := m + 1) (by omega), hs, e, List.getElem?_append_right (Nat.le_refl _), Nat.sub_self, hl] at hr
    exact (Option.some.inj hr).symm
  have hd : r.dropLast = p := by rw [hr']; exact ext1_drop w p
  refine ⟨hr', hd, hm, by omega, fun _ => ?_, fun k s hk hs' => ?_⟩
  · rw [Nat.add_sub_cancel]
    omega
  · rcases Nat.lt_or_ge k i with h | h
    · exact L.ok k s h hs'
    · have : k = i := by omega
      subst this
      rw [hr] at hs'
      cases hs'
      rw [hd, ← hr']
/-- the next row begins as the one before -/
theorem LInv.old {w : W} {j : Nat} {T : Tb} {i m : Nat} (L : LInv w j T i m) {r : List Nat} (hr : (rowsN w (j + 1))[i]? = some r) (e : i < (pre w j m).length) :
    ∃ p, 0 < m ∧ (rowsN w j)[m - 1]? = some p ∧ r.dropLast = p ∧ (T r = T (ext1 w p) → LInv w j T (i + 1) m) := by
  have h0 : 0 < m := by
    rcases Nat.eq_zero_or_pos m with h | h
    · rw [h] at e
      exact absurd e (Nat.not_lt_zero _)
    · exact h
  have hm1 : m - 1 < (rowsN w j).length := by have := L.mx; omega
  have hp := List.getElem?_eq_getElem hm1
  refine ⟨(rowsN w j)[m - 1], h0, hp, ?_⟩
  generalize (rowsN w j)[m - 1] = p at hp
  have hs := pre_succ hp
  rw [Nat.sub_add_cancel h0] at hs
  have hlt := L.lt h0
  have hd : r.dropLast = p := by
    rw [pre_at e, hs, List.getElem?_append_right (Nat.le_of_lt hlt), List.getElem?_map] at hr
    cases q : (onn w (lst0 p))[i - (pre w j (m - 1)).length]? with
    | none => rw [q] at hr; cases hr
    | some a =>
      rw [q] at hr
      cases hr
      exact List.dropLast_concat
  refine ⟨hd, fun ht => ⟨L.mx, e, fun _ => by omega, fun k s hk hs' => ?_⟩⟩
  rcases Nat.lt_or_ge k i with h | h
  · exact L.ok k s h hs'
  · have : k = i := by omega
    subst this
    rw [hr] at hs'
    cases hs'
    rw [hd]
    exact ht
/-- all rows looked at -/
theorem LInv.done {w : W} (ok : WOk w) {j : Nat} {T : Tb} {m : Nat} (L : LInv w j T (rowsN w (j + 1)).length m) : m = (rowsN w j).length ∧ dep w j T = true := by
  refine ⟨?_, dep_iff.mpr fun r hr => ?_⟩
  · rcases Nat.lt_or_ge m (rowsN w j).length with h | h
    · have hp := List.getElem?_eq_getElem h
      obtain ⟨l, hl⟩ := onn_head ok (List.getElem_mem h)
      have hs := pre_succ hp
      have h1 := pre_le w j (m + 1)
      rw [hs, List.length_append, List.length_map, hl] at h1
      have := L.le
      simp at h1
      omega
    · exact Nat.le_antisymm L.mx h
  · obtain ⟨k, hk, e⟩ := List.getElem_of_mem hr
    exact L.ok k r hk (by rw [← e]; exact List.getElem?_eq_getElem hk)
theorem dep_no {w : W} (ok : WOk w) {j : Nat} {T : Tb} {r p : List Nat} (hr : r ∈ rowsN w (j + 1)) (hd : r.dropLast = p) (h : T r ≠ T (ext1 w p)) : dep w j T = false := by
  cases e : dep w j T with
  | false => rfl
  | true =>
    have := dep_iff.mp e r hr
    rw [hd] at this
    exact absurd this h
end K49
end
section
set_option linter.all false
set_option maxRecDepth 100000
set_option maxHeartbeats 4000000
/-! own rules: enumerate(tuple), zip(tuple, list), items of a dict with tuple keys -/
namespace KR
open PySem PySem.Spec PyProof.Rows L2

/-! ### enumerate of a tuple -/
theorem meets_enumB1 {v : Value} {o : Obj} {Hb : Heap → Prop} (B : Begins v o Hb) :
    Meets (Builtin.«enumerate.__new__» ⟨[.type "enumerate", v], []⟩) (fun _ R s => Hb s.heap ∧
      R (.ok (.ret (.ref (s.heap.push o).objs.size))) { s with heap := (s.heap.push o).push { cls := .type "enumerate", data := .fields #[.none, .bool false, .ref s.heap.objs.size, rawInt 0, .none, .none] } }) :=
  .of_wp fun prog w A R s h => by
    obtain ⟨hp, g, d, tk, os⟩ := s
    obtain ⟨hb, h⟩ := h
    have hsub := sub_enumerate
    have go : ∀ {A2 : Around} {E : Value → Shared → Prop} {Q : Value → Shared → Prop}, Q (.ref hp.objs.size) ⟨hp.push o, g, d, tk, os⟩ → wpAny (model prog w) A2 (pyIter v) Q E ⟨hp, g, d, tk, os⟩ :=
      fun q => B.iter prog w _ _ ⟨hp, g, d, tk, os⟩ _ hb q
    wp_walk using go
    refine wpAny_stack_any fun st => wpAny_pure ?_
    split
    · rename_i c _ _ _ _ _
      cases (c == Value.type "enumerate")
      all_goals
        wp_walk using go
        exact ⟨_, rfl, h⟩
    · wp_walk using go
      exact ⟨_, rfl, h⟩

theorem call_enumB1 {prog : Program} {w : World} {A : Around} {E : Value → Shared → Prop} {s : Shared} {v : Value} {o : Obj} {Hb : Heap → Prop} {Q : Value → Shared → Prop} (B : Begins v o Hb) (hb : Hb s.heap)
    (h : ∀ h', IsEnum h' (s.heap.objs.size + 1) s.heap.objs.size 0 .none → h'.get? s.heap.objs.size = some o → (∀ b u, s.heap.get? b = some u → h'.get? b = some u) → Q (.ref (s.heap.objs.size + 1)) { s with heap := h' }) :
    wpAny (model prog w) A (call (.type "enumerate") [v]) Q E s := by
  refine callType_new F.called_enumerate (by decide) (F.typeCall_enumerate_1 _) (F.newCall_enumerate_1 _) (fun obj => F.args_object_init_2 obj _) F.entry_enumerate_new (meets_enumB1 B) ⟨hb, ?_⟩
  have hz : (s.heap.push o).objs.size = s.heap.objs.size + 1 := Heap.size_push ..
  show _ ∧ _
  rw [hz]
  have ge := Heap.get?_push_size (s.heap.push o) (o := { cls := .type "enumerate", data := .fields #[.none, .bool false, .ref s.heap.objs.size, rawInt 0, .none, .none] }) rfl
  rw [hz] at ge
  exact ⟨⟨_, ge, rfl⟩, h _ ge (Heap.get?_push_of_some _ (Heap.get?_push_size _ B.free)) fun b u x => Heap.get?_push_of_some _ (Heap.get?_push_of_some _ x)⟩

theorem ty_ne {a b : String} (h : a ≠ b) : Value.type a ≠ Value.type b := fun q => by
  injection q with q
  exact h q
/-- a tuple isn't an object of another class -/
theorem not_tup {h : Heap} {H : Hp} {P : Program} {w : World} {a it : Addr} {xs : List V} {K : PySem.W.Frag} (ki : K.In h) (hit : ∀ o, h.get? it = some o → o.cls ≠ .type "tuple") (ok : HOk P w H h) (hq : SqT K H a xs) : a ≠ it := by
  rintro rfl
  rcases hq with r | ⟨o, its, n, hk, hc, _⟩
  · obtain ⟨_, _, _, o, e, c, _⟩ := r.ok ok
    exact hit o e c
  · exact hit o (ki a o hk) hc
theorem not_lst {h : Heap} {H : Hp} {P : Program} {w : World} {a it : Addr} {xs : List V} {K : PySem.W.Frag} (ki : K.In h) (hit : ∀ o, h.get? it = some o → o.cls ≠ .type "list") (ok : HOk P w H h) (hq : SqL K H a xs) : a ≠ it := by
  rintro rfl
  rcases hq with r | ⟨o, its, n, hk, hc, _⟩
  · obtain ⟨_, its, n, _, e⟩ := r.ok ok
    exact hit _ e rfl
  · exact hit o (ki a o hk) hc
theorem obj_cls {h : Heap} {it : Addr} {o : Obj} {c d : String} (ho : h.get? it = some o) (hc : o.cls = .type c) (hd : c ≠ d) : ∀ o', h.get? it = some o' → o'.cls ≠ .type d := fun o' e z => by
  rw [ho] at e
  cases e
  rw [hc] at z
  exact ty_ne hd z
/-- two items as a new pair -/
def Prs (n : Nat) (f : Nat → V × V) (G : Hp → Prop) : It :=
  ⟨fun i H => i < n ∧ G H, fun i H v H' => ∃ T : Addr, v = .ref T ∧ H T = none ∧ H' = upd H T (.tup [(f i).1, (f i).2]), fun i H => i = n ∧ G H⟩
/-- from the library's walks to a turn -/
theorem turn_prs {P : Program} {w : World} {K : PySem.W.Frag} {elts : List Expr} {kk : Nat} {tpos : Pos} {n : Nat} {f : Nat → V × V} {G : Hp → Prop} {I : Addr} {fp : List Addr} {tn : Nat → Heap → Prop}
    (hI : I ∈ fp) (hobj : ∀ i h, tn i h → ∀ b ∈ fp, ∃ o, h.get? b = some o ∧ ∀ v, o.data ≠ .cell v) (hkeep : ∀ i h h', tn i h → (∀ b ∈ fp, ∀ o, h.get? b = some o → h'.get? b = some o) → tn i h')
    (hgo : ∀ (X : Cx) (i : Nat) (pins : List (Addr × Obj)) (s : Shared) (σ : L2.St) (H : Hp), X.prog = P → X.w = w → X.K = K → X.A.handled = none → Inv X pins σ H s → tn i s.heap → G H →
      ∃ (full wr : List Addr) (Y : Nat → Heap → Value → Heap → Prop) (Sx : Nat → Heap → Prop), GoesN P w X.A (.Tuple elts kk tpos) I full wr n Y Sx ∧ Sx i s.heap ∧ (∀ b ∈ wr, b ∈ fp) ∧ (∀ j h, Sx j h → tn j h) ∧
        ∀ v h', i < n → Y i s.heap v h' → ∃ (T : Addr) (u1 u2 : Value), v = .ref T ∧ s.heap.objs.size ≤ T ∧ L2.RelV (f i).1 u1 ∧ L2.RelV (f i).2 u2 ∧ h'.IsTuple T #[u1, u2])
    (hself : ∀ (A : Around) (i : Nat) (s : Shared) (Q : Value → Shared → Prop) (E : Value → Shared → Prop), tn i s.heap → Q (.ref I) s → wpAny (model P w) A (pyIter (.ref I)) Q E s) :
    Turn P w K (.Tuple elts kk tpos) (Prs n f G) fp I tn where
  mem := hI
  obj := hobj
  keep := hkeep
  item := by
    intro X hP hw hK hc i pins s σ H E J hf st hg
    obtain ⟨full, wr, Y, Sx, W, sx, hwr, back, hY⟩ := hgo X i pins s σ H hP hw hK (J.ok.hd hc) J st hg.2
    refine W.goes i s _ _ hg.1 sx fun v h' tk hy st' hk htk => ?_
    obtain ⟨T, u1, u2, rfl, hT0, r1, r2, hT⟩ := hY v h' hg.1 hy
    subst hP hw hK
    have new : ObjOk X.prog X.w (upd H T (.tup [(f i).1, (f i).2])) h' T (.tup [(f i).1, (f i).2]) := ⟨by show 2 ≤ sizeLine; decide, [u1, u2], .cons r1 (.cons r2 .nil), hT⟩
    have hfw : ∀ b ∈ wr, FpOk X pins H b := fun b hb => hf b (hwr b hb)
    refine ⟨.ref T, _, J.turnedNew (ch := wr) (fun b ob hb q => hk b ob hb q) hfw hT0 new, rfl, ⟨T, rfl, J.hok.fresh hT0, rfl⟩, back _ _ st', fun b hb => ?_⟩
    obtain ⟨o, ho, _⟩ := hobj i s.heap st b hb
    rw [upd_ne (Nat.ne_of_lt (Nat.lt_of_lt_of_le (Heap.lt_size ho) hT0))]
    exact (hf b hb).1
  done := by
    intro X hP hw hK hc i pins s σ H E J hf st hg
    obtain ⟨rfl, hG⟩ := hg
    obtain ⟨full, wr, Y, Sx, W, sx, hwr, back, hY⟩ := hgo X i pins s σ H hP hw hK (J.ok.hd hc) J st hG
    subst hP hw hK
    exact W.stops s _ _ sx fun h' tk hk htk => J.turnedL (ch := wr) (fun b ob hb q => hk b ob hb q) fun b hb => hf b (hwr b hb)
  self := hself

/-! ### enumerate(tuple) -/
def enF (xs : List V) (i : Nat) : V × V := (.int (i : Nat), xs.getD i .non)
theorem getD_of {xs : List V} {i : Nat} {x : V} (h : xs[i]? = some x) : xs.getD i .non = x := by
  rw [List.getD_eq_getElem?_getD, h]
  rfl
theorem turn_enumT {P : Program} {w : World} {K : PySem.W.Frag} {elts : List Expr} {kk : Nat} {tpos : Pos} {xs : List V} (a e it : Addr) :
    Turn P w K (.Tuple elts kk tpos) (Prs xs.length (enF xs) fun H => SqT K H a xs) [e, it] e (fun i h => (∃ old, IsEnum h e it (0 + ((i : Nat) : Int)) old) ∧ h.IsTupleIter it a i ∧ e ≠ it) := by
  refine turn_prs (by simp) (fun i h st b hb => ?_) (fun i h h' st k => ?_) (fun X i pins s σ H hP hw hK hh J st hq => ?_) (fun A i s Q E st h => ?_)
  · obtain ⟨⟨old, he⟩, ⟨o, ho, hc, hd⟩, _⟩ := st
    rcases (show b = e ∨ b = it by simpa using hb) with z | z
    · subst z
      exact ⟨_, he, fun v q => by cases q⟩
    · subst z
      exact ⟨o, ho, fun v q => by rw [hd] at q; cases q⟩
  · obtain ⟨⟨old, he⟩, hi, hne⟩ := st
    exact ⟨⟨old, k e (by simp) _ he⟩, hi.at fun o q => k it (by simp) o q, hne⟩
  · subst hP hw hK
    obtain ⟨hen, hit, hne⟩ := st
    obtain ⟨its, rv, p, hz⟩ := J.tuple hq
    obtain ⟨oi, hoi, hci, _⟩ := id hit
    have hai : a ≠ it := not_tup J.kIn (obj_cls hoi hci (by decide)) J.hok hq
    have hae : a ≠ e := by
      obtain ⟨old, he⟩ := id hen
      exact not_tup J.kIn (obj_cls (c := "enumerate") he rfl (by decide)) J.hok hq
    have W := GoesN.enumFrom (prog := X.prog) (w := X.w) (A := X.A) (elts := elts) (x1 := kk) (pos := tpos) 0 (Draws.tuple (A := X.A.in1) hh it a hai its.toArray) e hne (by simp; exact ⟨hne, hae.symm⟩) (by simp)
    have hl : its.toArray.size = xs.length := by simpa using rv.length.symm
    rw [hl] at W
    refine ⟨_, _, _, _, W, ⟨hen, hit, p⟩, fun b hb => hb, fun j h q => ⟨q.1, q.2.1, hne⟩, fun v h' hi hY => ?_⟩
    obtain ⟨T, t, x', rfl, hT0, hx', hT⟩ := hY
    obtain ⟨u, hu, ru⟩ := rv.get (List.getElem?_eq_getElem hi)
    have q : its.toArray[i]? = some u := by simpa using hu
    rw [q] at hx'
    cases hx'
    refine ⟨T, _, _, rfl, hT0, ⟨t, by rw [Int.zero_add]⟩, ?_, hT⟩
    show L2.RelV (xs.getD i .non) _
    rw [getD_of (List.getElem?_eq_getElem hi)]
    exact ru
  · obtain ⟨⟨_, he⟩, _⟩ := st
    exact wpAny_pyIter_enum he h
def iEnumT (K : PySem.W.Frag) (ta : TA) : TI := fun σ H R => ta σ H fun vs H1 => ∃ a xs, vs = [.ref a] ∧ SqT K H1 a xs ∧ R (Prs xs.length (enF xs) fun H => SqT K H a xs) H1
theorem pi_enumT {X : Cx} {e : Expr} {ta : TA} {p pos tpos : Pos} {elts : List Expr} {kk : Nat} (hg : Gl X "enumerate") (hm : X.mg "enumerate" = none) (ha : PA X [e] ta) (hs : starEach [e] X.env = [(false, eval e X.env)] := by rfl) :
    PI X (.Tuple elts kk tpos) (.Call (.Name "enumerate" p) [e] [] pos) (iEnumT X.K ta) := by
  refine ⟨fun pins s σ H R I h => ?_⟩
  refine Call_ (ld_blt I hg hm boot_enumerate (PyProof.Rows.callWith_type1 (thn (ha.run pos pins s σ H _ I h) fun us s1 hus => ?_) hs rfl))
  obtain ⟨vs, H1, I1, r1, a, xs, rfl, hq, q⟩ := hus
  obtain ⟨u1, rfl, r⟩ := vals1 r1
  cases r
  obtain ⟨its, rv, p', hz⟩ := I1.tuple hq
  refine call_enumB1 (begins_tuple a its.toArray) p' fun h' he hit hk => wpAny_pyIter_enum he ?_
  refine ⟨s1.heap.objs.size + 1, [s1.heap.objs.size + 1, s1.heap.objs.size], _, _, H1, rfl, I1.kept (t' := s1.toks) hk, turn_enumT a (s1.heap.objs.size + 1) s1.heap.objs.size, ⟨⟨.none, he⟩, ⟨_, hit, rfl, rfl⟩, Nat.succ_ne_self _⟩, fun b hb => ?_, q⟩
  have hle : s1.heap.objs.size ≤ b := by
    rcases (show b = s1.heap.objs.size + 1 ∨ b = s1.heap.objs.size by simpa using hb) with z | z
    · rw [z]; exact Nat.le_add_right _ _
    · rw [z]; exact Nat.le_refl _
  exact I1.fpOk hle (I1.hok.fresh hle)

/-! ### zip(tuple, list) -/
def zpF (xs ys : List V) (i : Nat) : V × V := (xs.getD i .non, ys.getD i .non)
theorem turn_zipTL {P : Program} {w : World} {K : PySem.W.Frag} {elts : List Expr} {kk : Nat} {tpos : Pos} {xs ys : List V} {a b z TI TO i1 i2 : Addr} (S : ZipSep2 z TI TO i1 i2 [i1, a] [i2, b]) :
    Turn P w K (.Tuple elts kk tpos) (Prs (min xs.length ys.length) (zpF xs ys) fun H => SqT K H a xs ∧ SqL K H b ys) [z, TI, TO, i1, i2] z
      (fun i h => IsZip h z TI TO .none ∧ IsTupOf2 h TI (.ref i1) (.ref i2) ∧ (∃ x y, IsTupOf2 h TO x y) ∧ h.IsTupleIter i1 a i ∧ h.IsListIter i2 b i) := by
  refine turn_prs (by simp) (fun i h st c hc => ?_) (fun i h h' st k => ?_) (fun X i pins s σ H hP hw hK hh J st hq => ?_) (fun A i s Q E st h => wpAny_pyIter_zip st.1 h)
  · obtain ⟨hz, eT, ⟨x, y, eO⟩, ⟨o1, e1, _, d1⟩, ⟨o2, e2, _, d2⟩⟩ := st
    rcases (show c = z ∨ c = TI ∨ c = TO ∨ c = i1 ∨ c = i2 by simpa using hc) with q | q | q | q | q
    all_goals subst q
    · exact ⟨_, hz, fun v q => by cases q⟩
    · exact ⟨_, eT, fun v q => by cases q⟩
    · exact ⟨_, eO, fun v q => by cases q⟩
    · exact ⟨o1, e1, fun v q => by rw [d1] at q; cases q⟩
    · exact ⟨o2, e2, fun v q => by rw [d2] at q; cases q⟩
  · obtain ⟨hz, eT, ⟨x, y, eO⟩, h1, h2⟩ := st
    exact ⟨k z (by simp) _ hz, k TI (by simp) _ eT, ⟨x, y, k TO (by simp) _ eO⟩, h1.at fun o q => k i1 (by simp) o q, h2.at fun o q => k i2 (by simp) o q⟩
  · subst hP hw hK
    obtain ⟨hz, hTI, hTO, h1, h2⟩ := st
    obtain ⟨hqx, hqy⟩ := hq
    obtain ⟨its, rv, p, _⟩ := J.tuple hqx
    obtain ⟨its2, rv2, p2, _⟩ := J.list hqy
    obtain ⟨o1, ho1, hc1, _⟩ := id h1
    obtain ⟨o2, ho2, hc2, _⟩ := id h2
    have na : a ≠ i1 := not_tup J.kIn (obj_cls ho1 hc1 (by decide)) J.hok hqx
    have nb : b ≠ i2 := not_lst J.kIn (obj_cls ho2 hc2 (by decide)) J.hok hqy
    have W := GoesN.zip2 (prog := X.prog) (w := X.w) (A := X.A) (elts := elts) (x1 := kk) (pos := tpos) S (Draws.tuple (A := X.A.in1) hh i1 a na its.toArray) (Draws.list (A := X.A.in1) hh i2 b nb its2.toArray)
    have l1 : its.toArray.size = xs.length := by simpa using rv.length.symm
    have l2 : its2.toArray.size = ys.length := by simpa using rv2.length.symm
    rw [l1, l2] at W
    refine ⟨_, _, _, _, W, ⟨hz, hTI, hTO, ⟨h1, p⟩, ⟨h2, p2.isList⟩⟩, fun c hc => ?_, fun j h q => ⟨q.1, q.2.1, q.2.2.1, q.2.2.2.1.1, q.2.2.2.2.1⟩, fun v h' hi hY => ?_⟩
    · rcases (show c = z ∨ c = TO ∨ c = i1 ∨ c = i2 by simpa using hc) with q | q | q | q
      all_goals simp [q]
    · obtain ⟨T, x', y', rfl, hT0, hx', hy', hT⟩ := hY
      have hi1 : i < xs.length := by omega
      have hi2 : i < ys.length := by omega
      obtain ⟨u, hu, ru⟩ := rv.get (List.getElem?_eq_getElem hi1)
      obtain ⟨u2, hu2, ru2⟩ := rv2.get (List.getElem?_eq_getElem hi2)
      have q : its.toArray[i]? = some u := by simpa using hu
      have q2 : its2.toArray[i]? = some u2 := by simpa using hu2
      rw [q] at hx'
      rw [q2] at hy'
      cases hx'
      cases hy'
      refine ⟨T, _, _, rfl, hT0, ?_, ?_, hT⟩
      · show L2.RelV (xs.getD i .non) _
        rw [getD_of (List.getElem?_eq_getElem hi1)]
        exact ru
      · show L2.RelV (ys.getD i .non) _
        rw [getD_of (List.getElem?_eq_getElem hi2)]
        exact ru2
def iZipTL (K : PySem.W.Frag) (ta : TA) : TI := fun σ H R => ta σ H fun vs H1 => ∃ a b xs ys, vs = [.ref a, .ref b] ∧ SqT K H1 a xs ∧ SqL K H1 b ys ∧ R (Prs (min xs.length ys.length) (zpF xs ys) fun H => SqT K H a xs ∧ SqL K H b ys) H1
theorem pi_zipTL {X : Cx} {e e2 : Expr} {ta : TA} {p pos tpos : Pos} {elts : List Expr} {kk : Nat} (hg : Gl X "zip") (hm : X.mg "zip" = none) (ha : PA X [e, e2] ta)
    (hs : starEach [e, e2] X.env = (false, eval e X.env) :: starEach [e2] X.env := by rfl) (hpl : (backTo pos (starEach [e2] X.env)).any (·.1) = false := by rfl) :
    PI X (.Tuple elts kk tpos) (.Call (.Name "zip" p) [e, e2] [] pos) (iZipTL X.K ta) := by
  refine ⟨fun pins s σ H R I h => ?_⟩
  refine Call_ (ld_blt I hg hm PyProof.Rows.boot_zip (PyProof.Rows.callWith_type1 (thn (ha.run pos pins s σ H _ I h) fun us s1 hus => ?_) hs hpl))
  obtain ⟨vs, H1, I1, r1, a, b, xs, ys, rfl, hqx, hqy, q⟩ := hus
  obtain ⟨u1, u2, rfl, r, r'⟩ := vals2 r1
  cases r
  cases r'
  obtain ⟨its, rv, p1, _⟩ := I1.tuple hqx
  obtain ⟨its2, rv2, p2, _⟩ := I1.list hqy
  refine zip_begins2 (begins_tuple a its.toArray) (begins_list b its2.toArray) p1 p2.isList fun h' hz hTI hTO h1 h2 hsz hk => wpAny_pyIter_zip hz ?_
  have la : a < s1.heap.objs.size := p1.lt
  have lb : b < s1.heap.objs.size := p2.lt
  have S : ZipSep2 (s1.heap.objs.size + 4) (s1.heap.objs.size + 2) (s1.heap.objs.size + 3) s1.heap.objs.size (s1.heap.objs.size + 1) [s1.heap.objs.size, a] [s1.heap.objs.size + 1, b] :=
    zip_sep2 (N := s1.heap.objs.size) (fp1 := [a]) (fp2 := [b]) (fun c hc => by rw [List.mem_singleton.mp hc]; exact la) (fun c hc => by rw [List.mem_singleton.mp hc]; exact lb)
  refine ⟨s1.heap.objs.size + 4, [s1.heap.objs.size + 4, s1.heap.objs.size + 2, s1.heap.objs.size + 3, s1.heap.objs.size, s1.heap.objs.size + 1], _, _, H1, rfl, I1.kept (t' := s1.toks) hk, turn_zipTL S,
    ⟨hz, hTI, ⟨_, _, hTO⟩, ⟨_, h1, rfl, rfl⟩, ⟨_, h2, rfl, rfl⟩⟩, fun c hcm => ?_, q⟩
  have hle : s1.heap.objs.size ≤ c := by
    rcases (show c = s1.heap.objs.size + 4 ∨ c = s1.heap.objs.size + 2 ∨ c = s1.heap.objs.size + 3 ∨ c = s1.heap.objs.size ∨ c = s1.heap.objs.size + 1 by simpa using hcm) with z | z | z | z | z
    all_goals rw [z]
    all_goals first
      | exact Nat.le_refl _
      | exact Nat.le_add_right _ _
  exact I1.fpOk hle (I1.hok.fresh hle)

/-! ### items of a dict whose keys are tuples -/
def itF (qs : Nat → Addr) (kvs : List (List Key × V)) (i : Nat) : V × V := (.ref (qs i), (kvs.map (·.2)).getD i .non)
def keyAd : Value → Addr
  | .ref q => q
  | _ => 0
def qsOf (es : Array DictEntry) (i : Nat) : Addr := keyAd ((es[i]?.map (·.key)).getD .none)
/-- what a locked dict of tuple keys is -/
structure FrzT (P : Program) (w : World) (H : Hp) (h : Heap) (d : Addr) (o : Obj) (kvs : List (List Key × V)) (es : Array DictEntry) (ep : Nat) : Prop where
  sys : (d == sysModules) = false
  get : h.get? d = some o
  ex : o.ExactDict
  dat : o.data = .dict es ep
  sz : es.size = kvs.length
  at_ : ∀ (i : Nat) (p : List Key × V), kvs[i]? = some p → ∃ en : DictEntry, es[i]? = some en ∧ en.key = .ref (qsOf es i) ∧ H (qsOf es i) = some (.tup (p.1.map kV)) ∧ L2.RelV p.2 en.val
theorem frzT {X : Cx} {pins : List (Addr × Obj)} {σ : L2.St} {H : Hp} {s : Shared} {d : Addr} {o : Obj} {kvs : List (List Key × V)} (I : Inv X pins σ H s) (h : H d = some (.frz o (.dT kvs))) :
    ∃ es ep, FrzT X.prog X.w H s.heap d o kvs es ep := by
  obtain ⟨hd, z, hs, xs, pr, o', es, ep, ho, hx, hdt, he, _⟩ := I.hok d _ h
  rw [hd] at ho
  cases ho
  have l1 : es.size = xs.length := size_of_entries he
  have l2 : kvs.length = xs.length := Paired.length pr
  refine ⟨es, ep, hs, hd, hx, hdt, by omega, fun i p e => ?_⟩
  obtain ⟨x, hx1, e1, e2, e3⟩ := L2.paired_get pr e
  have q := entry_at he i
  rw [hx1] at q
  have q' : es[i]? = some (entryOfKey (tupleKind (mixKind X.prog X.w)) x) := q
  have hq : qsOf es i = x.2.1 := by
    unfold qsOf
    rw [q']
    rfl
  exact ⟨_, q', by rw [hq]; rfl, by rw [hq]; exact e2, e3⟩
theorem turn_itemsT {P : Program} {w : World} {K : PySem.W.Frag} {elts : List Expr} {kk : Nat} {tpos : Pos} {kvs : List (List Key × V)} {o : Obj} {es : Array DictEntry} {ep : Nat} (d it : Addr) (hod : o.data = .dict es ep) (hsz : es.size = kvs.length) :
    Turn P w K (.Tuple elts kk tpos) (Prs es.size (itF (qsOf es) kvs) fun H => H d = some (.frz o (.dT kvs))) [it] it (fun i h => ∃ ok ov, IsItemIter h it d i es.size ep ok ov) := by
  refine turn_prs (by simp) (fun i h st b hb => ?_) (fun i h h' st k => ?_) (fun X i pins s σ H hP hw hK hh J st hq => ?_) (fun A i s Q E st h => ?_)
  · obtain ⟨ok, ov, e⟩ := st
    have z : b = it := by simpa using hb
    subst z
    exact ⟨_, e, fun v z => by cases z⟩
  · obtain ⟨ok, ov, e⟩ := st
    exact ⟨ok, ov, k it (by simp) _ e⟩
  · subst hP hw hK
    obtain ⟨es', ep', F⟩ := frzT J hq
    obtain ⟨rfl, rfl⟩ := L2.dict_ep hod F.dat
    obtain ⟨ok, ov, hi⟩ := id st
    have hne : d ≠ it := by
      rintro rfl
      have g := F.get
      have hi' : s.heap.get? d = some _ := hi
      rw [hi'] at g
      have c := F.ex.1
      cases g
      exact ty_ne (by decide) c
    have W := GoesN.rawItems (prog := X.prog) (w := X.w) (A := X.A) (elts := elts) (x1 := kk) (pos := tpos) hh it d hne es' ep'
    refine ⟨_, _, _, _, W, ⟨st, o, F.get, F.ex, F.dat⟩, fun c hc => hc, fun j h q => q.1, fun v h' hi2 hY => ?_⟩
    · have hi : i < kvs.length := by rw [← hsz]; exact hi2
      obtain ⟨T, _, rfl, hT0, hT⟩ := hY
      obtain ⟨en, e1, e2, e3, e4⟩ := F.at_ i _ (List.getElem?_eq_getElem hi)
      have e5 : es'[i] = en := by
        rw [Array.getElem?_eq_getElem hi2] at e1
        exact Option.some.inj e1
      rw [e5] at hT
      refine ⟨T, _, _, rfl, hT0, e2, ?_, hT⟩
      show L2.RelV ((kvs.map (·.2)).getD i .non) _
      rw [getD_of (x := kvs[i].2) (by rw [List.getElem?_map, List.getElem?_eq_getElem hi]; rfl)]
      exact e4
  · obtain ⟨_, _, e⟩ := st
    exact PySem.W.kcp_self e h
/-- d.items(), d locked already -/
def iItemsT (td : TE) : TI := fun σ H R => td σ H fun x H1 => ∃ d o kvs, x = .ref d ∧ H1 d = some (.frz o (.dT kvs)) ∧
  ∀ qs : Nat → Addr, (∀ (i : Nat) (p : List Key × V), kvs[i]? = some p → H1 (qs i) = some (.tup (p.1.map kV))) → R (Prs kvs.length (itF qs kvs) fun H => H d = some (.frz o (.dT kvs))) H1
/-- d.items(), d a dict that is seen here for the last time: it stays locked -/
def iItemsTN (td : TE) : TI := fun σ H R => td σ H fun x H0 => ∃ d kvs, x = .ref d ∧ H0 d = some (.dT kvs) ∧
  ∀ (o : Obj) (qs : Nat → Addr), (∀ (i : Nat) (p : List Key × V), kvs[i]? = some p → upd H0 d (.frz o (.dT kvs)) (qs i) = some (.tup (p.1.map kV))) → R (Prs kvs.length (itF qs kvs) fun H => H d = some (.frz o (.dT kvs))) (upd H0 d (.frz o (.dT kvs)))
section
variable {X : Cx} {e : Expr} {td : TE} {apos cpos : Pos}
theorem items_go {pins : List (Addr × Obj)} {σ : L2.St} {H1 : Hp} {s1 : Shared} {d : Addr} {o : Obj} {kvs : List (List Key × V)} {elts : List Expr} {kk : Nat} {tpos : Pos} {R : It → Hp → Prop} (I1 : Inv X pins σ H1 s1) (hd : H1 d = some (.frz o (.dT kvs)))
    (q : ∀ qs : Nat → Addr, (∀ (i : Nat) (p : List Key × V), kvs[i]? = some p → H1 (qs i) = some (.tup (p.1.map kV))) → R (Prs kvs.length (itF qs kvs) fun H => H d = some (.frz o (.dT kvs))) H1) :
    (s1.TypeIs (.ref d) "dict" ∧ ∀ b, Value.ref d = .ref b → ∃ ob, s1.heap.get? b = some ob ∧ ob.dict = none) ∧ (d == sysModules) = false ∧ (∃ es ep, s1.heap.DictRaw d es ep) ∧
      wpAny (model X.prog X.w) X.A (pyIter (.ref s1.heap.objs.size)) (PIE X pins σ (.Tuple elts kk tpos) R) X.xe { s1 with heap := s1.heap.push { cls := .type "dict_items", data := .fields #[.ref d] } } := by
  obtain ⟨es, ep, F⟩ := frzT I1 hd
  have raw : s1.heap.DictRaw d es ep := ⟨o, F.get, F.ex, F.dat⟩
  have I2 : Inv X pins σ H1 { s1 with heap := s1.heap.push { cls := .type "dict_items", data := .fields #[.ref d] } } := I1.kept (t' := s1.toks) fun b ob q => Heap.get?_push_of_some _ q
  refine ⟨⟨raw.typeIs, fun b z => ?_⟩, F.sys, ⟨es, ep, raw⟩, ?_⟩
  · cases z
    exact ⟨o, F.get, F.ex.2.1⟩
  · have T := turn_itemsT (P := X.prog) (w := X.w) (K := X.K) (elts := elts) (kk := kk) (tpos := tpos) d (s1.heap.push { cls := .type "dict_items", data := .fields #[.ref d] }).objs.size F.dat F.sz
    have e := F.sz
    refine wpAny_pyIter_items_raw (d := d) ⟨_, Heap.get?_push_size _ rfl, rfl, rfl⟩ (raw.at fun o e => Heap.get?_push_of_some _ e) ?_
    rw [e] at T
    refine pi_one (tk := s1.toks) I2 _ T ⟨.none, .none, ?_⟩ (q _ fun i p hp => ?_)
    · rw [← e]
      exact Heap.get?_push_size _ rfl
    · obtain ⟨en, _, _, e3, _⟩ := F.at_ i p hp
      exact e3
theorem pi_itemsT {elts : List Expr} {kk : Nat} {tpos : Pos} (he : PE X e td) (hbase : attributeBase e "items" X.env (eval e X.env) = eval e X.env := by rfl) (hline : (apos.endLine == cpos.line) = true := by rfl) :
    PI X (.Tuple elts kk tpos) (.Call (.Attribute e "items" apos) [] [] cpos) (iItemsT td) := by
  refine ⟨fun pins s σ H R I h => ?_⟩
  refine wpAny_Call_method (T := "dict") (id := "dict.items") hbase rfl hline F.plainAttrs_dict F.slot_dict_items F.type_dict_items (thn (he.run pins s σ H _ I h) fun u s1 hu => ?_)
  obtain ⟨x, H1, I1, rx, d, o, kvs, rfl, hd, q⟩ := hu
  obtain rfl : u = Value.ref d := rx
  obtain ⟨⟨t1, t2⟩, sys, raw, fin⟩ := items_go I1 hd q
  refine ⟨t1, t2, ?_⟩
  show wpAny _ _ (callWith cpos (.builtin "dict.items") [.ref d] [] []) _ X.xe s1
  exact method_meetsIn F.slot_dict_items F.entry_dict_items rfl (PySem.evalArgs_none ⟨rfl, t1, F.args_dict_items_1 _, _, meets_dict_items_raw d sys, raw, fin⟩)
theorem pi_itemsTN {elts : List Expr} {kk : Nat} {tpos : Pos} (he : PE X e td) (hbase : attributeBase e "items" X.env (eval e X.env) = eval e X.env := by rfl) (hline : (apos.endLine == cpos.line) = true := by rfl) :
    PI X (.Tuple elts kk tpos) (.Call (.Attribute e "items" apos) [] [] cpos) (iItemsTN td) := by
  refine ⟨fun pins s σ H R I h => ?_⟩
  refine wpAny_Call_method (T := "dict") (id := "dict.items") hbase rfl hline F.plainAttrs_dict F.slot_dict_items F.type_dict_items (thn (he.run pins s σ H _ I h) fun u s1 hu => ?_)
  obtain ⟨x, H0, I0, rx, d, kvs, rfl, h0, q⟩ := hu
  obtain rfl : u = Value.ref d := rx
  obtain ⟨o, I1⟩ := I0.lock h0 trivial
  obtain ⟨⟨t1, t2⟩, sys, raw, fin⟩ := items_go I1 upd_same (q o)
  refine ⟨t1, t2, ?_⟩
  show wpAny _ _ (callWith cpos (.builtin "dict.items") [.ref d] [] []) _ X.xe s1
  exact method_meetsIn F.slot_dict_items F.entry_dict_items rfl (PySem.evalArgs_none ⟨rfl, t1, F.args_dict_items_1 _, _, meets_dict_items_raw d sys, raw, fin⟩)
end
end KR
end
section
set_option linter.all false
set_option maxRecDepth 100000
set_option maxHeartbeats 4000000
/-! own rules: never reached, xs[i] op= e, a star among targets, len and != of own instances -/
namespace KR
open PySem PySem.Spec PyProof.Rows L2

/-! ### an expression that the run never comes to -/
def tNeverE : TE := fun _ _ _ => False
theorem pe_never {X : Cx} {e : Expr} : PE X e tNeverE := ⟨fun _ _ _ _ _ _ h => h.elim⟩

/-! ### xs[i] op= e -/
def gGetL (K : PySem.W.Frag) : V → V → Hp → VK → Prop := fun o i H Q => ∃ p xs j x, o = .ref p ∧ i = .int (j : Nat) ∧ SqL K H p xs ∧ xs[j]? = some x ∧ Q x H
theorem pget_list {X : Cx} : PGet X (gGetL X.K) := by
  intro pins s σ H o i ov iv Q I ro ri h
  obtain ⟨p, xs, j, x, rfl, rfl, hq, hx, q⟩ := h
  cases ro
  obtain ⟨t, rfl⟩ := ri
  obtain ⟨its, r, pl, hz⟩ := I.list hq
  obtain ⟨u, hu, ru⟩ := r.get hx
  have hj : j < its.toArray.size := by
    have := (List.getElem?_eq_some_iff.mp hu).1
    simpa using this
  have hn := line63
  have hl := r.length
  have hja : j < its.length := by simpa using hj
  exact wpAny_getItem_list pl.isList (Int.natCast_nonneg j) (by omega) (by simpa using hu) ⟨x, H, I, ru, q⟩

/-! ### first, *rows = .., *words, sign, last = .. -/
section
variable {prog : Program} {w : World} {A : Around} {E : Value → Shared → Prop} {s : Shared}
theorem star_items {l : Addr} {items : Array Value} {n i : Nat} {Q : List Value → Shared → Prop} (hl : s.heap.IsList l items) (hh : A.handled = none) (hi : i < n) (hn : n ≤ items.size + 1) (hz : items.size ≤ 16384)
    (h : ∀ (h2 : Heap) (tk : Nat), (∀ b o, s.heap.get? b = some o → h2.get? b = some o) →
      Q (items.toList.take i ++ [.ref h2.objs.size] ++ (items.toList.drop i).drop (items.size + 1 - n)) { s with heap := h2.push (seqObj "list" ((items.toList.drop i).take (items.size + 1 - n)).toArray 0), toks := tk }) : wpAny (model prog w) A (unpackItems (.ref l) n (some i)) Q E s := by
  obtain ⟨ol, hol, _⟩ := id hl
  have hll : l < s.heap.objs.size := Heap.lt_size hol
  have hne : l ≠ s.heap.objs.size := Nat.ne_of_lt hll
  unfold unpackItems notIterableAtAll
  refine wpAny_bind (wpAny_bind (wpAny_specialOf hl.typeIs slot_list_iter.lookup (wpAny_pure ?_)))
  simp only [Bool.false_eq_true, if_false]
  refine wpAny_bind (wpAny_holding (wpAny_pyIter_list hl ?_))
  refine wpAny_bind (wpAny_holding (PySem.W.kun_draw hne i 0 _ _ ⟨_, Heap.get?_push_size _ rfl, rfl, rfl⟩ (hl.push _) (by omega) fun h1 it1 sb1 => ?_))
  have hl1 : h1.IsList l items := (hl.push _).extBut sb1.extBut hne
  rw [Nat.zero_add] at it1
  have lt : (items.toList.take i).length = i := by
    rw [List.length_take, Array.length_toList]
    omega
  have lr : (items.toList.drop i).length = items.size - i := by
    rw [List.length_drop, Array.length_toList]
  rw [List.drop_zero, if_neg (by rw [lt]; omega)]
  obtain ⟨oi, hoi, _⟩ := id it1
  obtain ⟨ol1, hol1, _⟩ := id hl1
  refine wpAny_bind (wpAny_holding (PySem.W.kun_collect (s := { s with heap := h1 }) (T := "list_iterator") (.inr (.inr (.inl rfl))) (Walks.list (A := A.in1) hh s.heap.objs.size l hne items) (fun j u st => st.1.typeIs) (k := i) (by omega) ⟨it1, hl1⟩ (Heap.lt_size hoi) (Heap.lt_size hol1) (fun h2 tk hk => ?_) (by rw [sizeLine_eq]; omega)))
  show wpAny _ _ (if (items.toList.drop i).length < n - 1 - i then _ else _) _ _ _
  rw [if_neg (by rw [lr]; omega)]
  have em : (items.toList.drop i).length - (n - 1 - i) = items.size + 1 - n := by
    rw [lr]
    omega
  show wpAny _ _ (newList ((items.toList.drop i).take ((items.toList.drop i).length - (n - 1 - i))) >>= fun d => pure (items.toList.take i ++ [d] ++ (items.toList.drop i).drop ((items.toList.drop i).length - (n - 1 - i)))) _ _ _
  rw [em]
  have old : ∀ b o, s.heap.get? b = some o → h2.get? b = some o := fun b o e => by
    have hb := Nat.ne_of_lt (Heap.lt_size e)
    exact hk b o hb (sb1.extBut b o hb (Heap.get?_push_of_some _ e))
  refine wpAny_bind (wpAny_newList ?_ (by rw [List.length_take, lr, sizeLine_eq]; omega))
  exact wpAny_pure (h h2 tk old)
end
/-- the targets' words where one has a star: the list's first i items, a new list, the last ones -/
def gStar (K : PySem.W.Frag) (n i : Nat) (t : TGs) : TG := fun v σ H Q => ∃ a xs, v = .ref a ∧ SqL K H a xs ∧ i < n ∧ n ≤ xs.length + 1 ∧ xs.length ≤ 16384 ∧
  ∀ D, H D = none → t (xs.take i ++ [.ref D] ++ (xs.drop i).drop (xs.length + 1 - n)) σ (upd H D (.lst ((xs.drop i).take (xs.length + 1 - n)))) Q
section
variable {X : Cx}
theorem pgs_star {e : Expr} {es : List Expr} {p : Pos} {t : TG} {u : TGs} (h1 : PG X e t) (h2 : PGs X es u) : PGs X (.Starred e p :: es) (gCons t u) := by
  refine ⟨fun pins s σ H vs us Q I r h => ?_⟩
  obtain ⟨v, vr, rfl, h⟩ := h
  cases r with
  | cons r rr =>
    have hs : (assignEach (.Starred e p :: es) X.env).map (·.2) = assign e X.env :: (assignEach es X.env).map (·.2) := rfl
    rw [hs]
    refine assignInOrder_cons (thn (h1.run pins s σ H _ _ _ I r h) fun _ s1 q => ?_)
    obtain ⟨σ1, H1, I1, q1⟩ := q
    exact h2.run pins s1 σ1 H1 _ _ Q I1 rr q1
theorem pg_star {es : List Expr} {k n i : Nat} {pos : Pos} {t : TGs} (hc : X.calm = true) (h : PGs X es t) (hn : (assignEach es X.env).length = n := by rfl) (hst : (assignEach es X.env).findIdx? (·.1) = some i := by rfl) :
    PG X (.Tuple es k pos) (gStar X.K n i t) := by
  refine ⟨fun pins s σ H v u Q I r hw => ?_⟩
  obtain ⟨a, xs, rfl, hq, hi, hxn, hz, hw⟩ := hw
  cases r
  obtain ⟨its, rv, pl, _⟩ := I.list hq
  have hl : its.toArray.size = xs.length := by simpa using rv.length.symm
  rw [assign_Tuple]
  refine wpAny_bind (wpAny_standAt ?_)
  unfold unpack
  rw [hn, hst]
  refine wpAny_bind (wpAny_holding (star_items pl.isList (I.ok.hd hc) hi (by rw [hl]; exact hxn) (by rw [hl]; exact hz) fun h2 tk old => ?_))
  rw [hl]
  have I2 : Inv X pins σ H { s with heap := h2, toks := tk } := I.kept old
  have rm : Vals ((xs.drop i).take (xs.length + 1 - n)) ((its.drop i).take (xs.length + 1 - n)) := (rv.drop i).take _
  have I3 := I2.laid (a := h2.objs.size) (o := .lst ((xs.drop i).take (xs.length + 1 - n))) (h' := h2.push (seqObj "list" ((its.drop i).take (xs.length + 1 - n)).toArray 0)) (t' := tk)
    (fun b o e => Heap.get?_push_of_some _ e) (Nat.le_refl _) ⟨by rw [List.length_take, List.length_drop, sizeLine_eq]; omega, _, 0, rm, Heap.get?_push_size _ rfl⟩
  refine h.run pins _ σ _ _ _ Q I3 ?_ (hw h2.objs.size (I2.hok.fresh (Nat.le_refl _)))
  have one : Vals [V.ref h2.objs.size] [Value.ref h2.objs.size] := .cons (show L2.RelV (.ref h2.objs.size) _ from rfl) .nil
  have all := ((rv.take i).append one).append ((rv.drop i).drop (xs.length + 1 - n))
  simpa using all
end

/-! ### own defs called by the machine -/
section
variable {X : Cx} {CX : CXT} {pins : List (Addr × Obj)} {σ : L2.St} {H : Hp} {s : Shared} {n : Nat} {f : Addr} {fd : FuncData} {ps : List Str} {sp : Sp} {E : XK} {A : Around}
theorem run_ok {us : List Value} {vs : List V} {Q : VK} (F : FnOk X.prog X.w X.K X.mg X.base CX n f fd ps sp) (hb : Binds X.K fd ps []) (hr : Room n A) (e0 : Env0 X.prog X.w X.K X.mg X.base A X.stack s H) (hx : Passes CX X E) (I : Inv X pins σ H s) (r : Vals vs us)
    (h : sp vs H Q E) : wpAny (model X.prog X.w) A (call (.ref f) us) (EP X pins σ Q) X.xe s := by
  have hl := F.len _ _ _ _ h
  refine wpAny_call (codeAny_mono (F.run A X.stack s H ⟨us, []⟩ us vs Q E hr e0 (by
    have := hb s us I.kIn (by rw [List.append_nil, ← r.length, hl])
    simpa using this) r h) fun r s' hq => ?_)
  cases r with
  | error e => exact hx pins σ H s e s' I hq
  | ok fl =>
    cases fl with
    | ret u => exact I.after hq
    | next => exact False.elim hq
    | brk => exact False.elim hq
    | cont => exact False.elim hq
/-- len(x) by an own __len__ -/
def rLenOwn (C : Addr) (sp : Sp) (E : XK) : List V → Hp → VK → Prop := fun xs H Q => ∃ a dx fs, xs = [.ref a] ∧ H a = some (.ins C dx fs) ∧ sp [.ref a] H (fun z H' => ∃ i, z = .int i ∧ 0 ≤ i ∧ i < 2 ^ 63 ∧ Q z H') E
theorem call_lenOwn {C : Addr} (hs : PySem.W.findIn X.K (.ref C) "__len__" = some (some (.ref f))) (hf : PySem.W.isFn X.K (.ref f) = true) (F : FnOk X.prog X.w X.K X.mg X.base CX n f fd ps sp) (hb : Binds X.K fd ps []) (hr : Room (n + 1) X.A) (hx : Passes CX X E) :
    CallR X (.builtin "len") (rLenOwn C sp E) := by
  intro pins s σ H xs us Q I r h
  obtain ⟨a, dx, fs, rfl, ha, q⟩ := h
  obtain ⟨u, rfl, ru⟩ := vals1 r
  cases ru
  obtain ⟨mA, J, _⟩ := ins_get I.hok ha
  obtain ⟨od, J, _⟩ := J.look
  obtain ⟨m, hF⟩ := I.fr
  refine PySem.W.len_K hF I.ok.mod.kin J hs hf (wpAny_mono (run_ok (vs := [.ref a]) F hb hr.in1 I.env0.in1 hx I (.cons rfl .nil) q) (fun w s' z => ?_) fun _ _ x => x)
  obtain ⟨z, H', I', rz, i, rfl, h0, h1, qz⟩ := z
  obtain ⟨t, rfl⟩ := rz
  exact ⟨⟨h0, h1⟩, .int i, H', I'.tok _, ⟨_, rfl⟩, qz⟩

/-! ### x != y by an own __eq__ and no __ne__ -/
structure NeCls (K : PySem.W.Frag) (C f : Addr) : Prop where
  obj : ∃ (nm q : Str) (N : Addr) (bs : List Value) (hd : Bool) (sn : List Str) (sub : List Value) (ab : Bool) (col : Option Bool) (dd : Option Addr) (k0 k1 k2 k3 k5 : Option Value) (nid : String),
    K.lookup C = some (excClassObj nm q C N bs [.type "object"] hd sn sub ab col dd k0 k1 k2 k3 k5 nid) ∧ PySem.W.nsOkIn K N = true ∧ PySem.W.nsIn K N "__eq__" = some (some (.ref f)) ∧ PySem.W.nsIn K N "__ne__" = some none
  fn : ∃ o, K.lookup f = some o ∧ o.cls = .type "function"
theorem ns_has {K : PySem.W.Frag} {h : Heap} {N : Addr} {m : Str → Option Value} {x : Str} {v : Value} (kin : K.In h) (G : h.Ns N m) (e : PySem.W.nsIn K N x = some (some v)) : m x = some v := by
  obtain ⟨o, es, ep, ho, hd, _, hf⟩ := G
  unfold PySem.W.nsIn at e
  split at e
  · rename_i q
    have hh := kin _ _ q
    rw [ho] at hh
    cases hh
    cases hd
    split at e
    · rename_i he
      cases e
      rw [← hf]
      unfold nsFind findBy
      rw [← Array.find?_toList, he]
      rfl
    · split at e <;> cases e
  · cases e
theorem typeLook_eq : ∃ y, typeLookup (.type "object") "__eq__" = pure y := ⟨_, F.cmp_object.eq.lookup⟩
theorem NeCls.own {K : PySem.W.Frag} {C f x : Addr} {h : Heap} {ox : Obj} (c : NeCls K C f) (kin : K.In h) (hx : h.get? x = some ox) (hc : ox.cls = .ref C) : h.OwnEqNoNe x C f "object" [.type "object"] := by
  obtain ⟨nm, q, N, bs, hd, sn, sub, ab, col, dd, k0, k1, k2, k3, k5, nid, hC, hok, he, hn⟩ := c.obj
  obtain ⟨of, hf, hfc⟩ := c.fn
  have G : h.Ns N (h.nsMap N) := .of_isNs (PySem.W.isNs_of_in kin hok)
  exact ⟨ox, of, nm, q, N, bs, hd, sn, sub, ab, col, dd, k0, k1, k2, k3, k5, nid, h.nsMap N, _, hx, hc, kin _ _ hC, G, ns_has kin G he, kin _ _ hf, hfc, F.cmp_object.mro, F.cmp_object.eq.lookup, PySem.W.ns_none_of kin G hn⟩
def rNeOwn (C : Addr) (sp : Sp) (E : XK) : R2 := fun x y H Q => ∃ a dx fs b dy gs, x = .ref a ∧ y = .ref b ∧ H a = some (.ins C dx fs) ∧ H b = some (.ins C dy gs) ∧ sp [x, y] H (fun z H' => ∃ c, z = .bl c ∧ Q (.bl (!c)) H') E
theorem op_neOwn {C : Addr} (c : NeCls X.K C f) (F : FnOk X.prog X.w X.K X.mg X.base CX n f fd ps sp) (hb : Binds X.K fd ps []) (hr : Room (n + 1) X.A) (hx : Passes CX X E) : OpR X (compareOp .NotEq) (rNeOwn C sp E) := by
  intro pins s σ H x y v u Q I rx ry h
  obtain ⟨a, dx, fs, b, dy, gs, rfl, rfl, ha, hb2, q⟩ := h
  cases rx
  cases ry
  obtain ⟨mA, JA, _⟩ := ins_get I.hok ha
  obtain ⟨mB, JB, _⟩ := ins_get I.hok hb2
  obtain ⟨od, JA, _⟩ := JA.look
  obtain ⟨od2, JB, _⟩ := JB.look
  obtain ⟨hp, g, d, t, os⟩ := s
  have kin : X.K.In hp := I.kIn
  have hu : X.A.units + 1 < cLine := hu_of hr
  refine compareOp_ne_ownEq PySem.F.cmp_object (c.own kin JA.at_ JA.cls) JB.at_ JB.cls hu (wpAny_mono (run_ok (vs := [.ref a, .ref b]) F hb hr.in1 I.env0.in1 hx I (.cons rfl (.cons rfl .nil)) q) (fun w s' z => ?_) fun _ _ x => x)
  obtain ⟨z, H', I', rz, cc, rfl, qz⟩ := z
  cases rz
  exact ⟨cc, rfl, .bl (!cc), H', I', rfl, qz⟩
end
end KR
end
section
set_option linter.all false
set_option maxRecDepth 100000
set_option maxHeartbeats 4000000
/-! a stable heap S within the heap H as it stands: what grows, what may change, what an expression gives -/
namespace KD
open PySem PySem.Spec PyProof.Rows L2 KR

theorem same_new {H : Hp} {p : Addr} {o : HO} (h : H p = none) : Same H (upd H p o) := fun b u e => by
  rw [upd_ne (ne_of_none e h)]
  exact e
theorem same_mut {S H : Hp} {p : Addr} {o : HO} (e : Same S H) (h : S p = none) : Same S (upd H p o) := fun b u hb => by
  rw [upd_ne (ne_of_none hb h)]
  exact e b u hb
theorem same_both {S H : Hp} {p : Addr} {o : HO} (e : Same S H) : Same (upd S p o) (upd H p o) := fun b u hb => by
  by_cases q : b = p
  · rw [q, upd_same] at hb ⊢
    exact hb
  · rw [upd_ne q] at hb ⊢
    exact e b u hb
theorem same_in {S H : Hp} {p : Addr} {o : HO} (e : Same S H) (h : H p = some o) : Same (upd S p o) H := fun b u hb => by
  by_cases q : b = p
  · rw [q, upd_same] at hb
    rw [q, h]
    exact hb
  · rw [upd_ne q] at hb
    exact e b u hb
theorem same_t {K : PySem.W.Frag} {H H' : Hp} {a : Addr} {xs : List V} (e : Same H H') (h : SqT K H a xs) : SqT K H' a xs := by
  rcases h with (h | ⟨o, h⟩) | h
  · exact .inl (.inl (e _ _ h))
  · exact .inl (.inr ⟨o, e _ _ h⟩)
  · exact .inr h

/-! ### modes: what may change on the way, and what holds of it -/
def NoTup : HO → Prop
  | .tup _ => False
  | _ => True
structure Md where
  M : Addr → Prop
  B : Hp → Prop
  up : ∀ H H', Same H H' → B H → B H'
  loc : ∀ H0 H p o, B H0 → H0 p = none → B H → B (upd H p o)
  nt : ∀ H p o, B H → M p → H p = some o → NoTup o
def md0 : Md := ⟨fun _ => False, fun _ => True, fun _ _ _ _ => trivial, fun _ _ _ _ _ _ _ => trivial, fun _ _ _ _ z _ => z.elim⟩
structure Ok (md : Md) (S H : Hp) : Prop where
  le : Same S H
  b : md.B H
  m : ∀ p, md.M p → S p = none ∧ H p ≠ none
structure Gr (md : Md) (S H S' H' : Hp) : Prop where
  o : Ok md S H
  k : Ok md S' H'
  st : Same S S'
  fr : ∀ p o, ¬ md.M p → H p = some o → H' p = some o
  on : ∀ p, H p ≠ none → H' p ≠ none
  nw : ∀ p o, ¬ md.M p → H p = some o → NoTup o → S p = none → S' p = none
variable {md : Md} {S H S' H' S1 H1 S0 H0 : Hp}
theorem ok0 (h : Same S H) : Ok md0 S H := ⟨h, trivial, fun _ z => z.elim⟩
theorem Ok.self : Ok md0 H H := ok0 (Same.refl H)
theorem Gr.refl (h : Ok md S H) : Gr md S H S H := ⟨h, h, Same.refl S, fun _ _ _ e => e, fun _ e => e, fun _ _ _ _ _ e => e⟩
theorem Gr.trans (a : Gr md S H S1 H1) (b : Gr md S1 H1 S' H') : Gr md S H S' H' :=
  ⟨a.o, b.k, a.st.trans b.st, fun p o n e => b.fr p o n (a.fr p o n e), fun p e => b.on p (a.on p e), fun p o m e t n => b.nw p o m (a.fr p o m e) t (a.nw p o m e t n)⟩
/-- a new object that stays as it is -/
theorem Ok.new {p : Addr} {o : HO} (h : Ok md S H) (hp : H p = none) : Gr md S H (upd S p o) (upd H p o) := by
  have hs : S p = none := h.le.free hp
  refine ⟨h, ⟨same_both h.le, md.loc H H p o h.b hp h.b, fun q z => ?_⟩, same_new hs, fun q u _ e => ?_, fun q e z => ?_, fun q u _ e _ n => ?_⟩
  · have ne : q ≠ p := fun c => (h.m q z).2 (by rw [c]; exact hp)
    rw [upd_ne ne, upd_ne ne]
    exact h.m q z
  · rw [upd_ne (ne_of_none e hp)]
    exact e
  · by_cases c : q = p
    · rw [c, upd_same] at z
      cases z
    · rw [upd_ne c] at z
      exact e z
  · rw [upd_ne (ne_of_none e hp)]
    exact n
/-- a new object that may change -/
theorem Ok.newL {p : Addr} {o : HO} (h : Ok md S H) (hp : H p = none) : Gr md S H S (upd H p o) := by
  refine ⟨h, ⟨same_mut h.le (h.le.free hp), md.loc H H p o h.b hp h.b, fun q z => ?_⟩, Same.refl S, fun q u _ e => ?_, fun q e z => ?_, fun _ _ _ _ _ n => n⟩
  · have ne : q ≠ p := fun c => (h.m q z).2 (by rw [c]; exact hp)
    rw [upd_ne ne]
    exact h.m q z
  · rw [upd_ne (ne_of_none e hp)]
    exact e
  · by_cases c : q = p
    · rw [c, upd_same] at z
      cases z
    · rw [upd_ne c] at z
      exact e z
/-- an object of our own (not there at the start, not in S) changes -/
theorem Gr.mut {p : Addr} {o : HO} (g : Gr md S0 H0 S H) (h0 : H0 p = none) (hs : S p = none) : Gr md S0 H0 S (upd H p o) := by
  refine ⟨g.o, ⟨same_mut g.k.le hs, md.loc H0 H p o g.o.b h0 g.k.b, fun q z => ?_⟩, g.st, fun q u n e => ?_, fun q e z => ?_, g.nw⟩
  · have ne : q ≠ p := fun c => (g.o.m q z).2 (by rw [c]; exact h0)
    rw [upd_ne ne]
    exact g.k.m q z
  · rw [upd_ne (ne_of_none e h0)]
    exact g.fr q u n e
  · have ne : q ≠ p := fun c => e (by rw [c]; exact h0)
    rw [upd_ne ne] at z
    exact g.on q e z
/-- .. and stays from now on -/
theorem Gr.frz {p : Addr} {o : HO} (g : Gr md S0 H0 S H) (h0 : H0 p = none) (hs : S p = none) (h : H p = some o) : Gr md S0 H0 (upd S p o) H := by
  refine ⟨g.o, ⟨same_in g.k.le h, g.k.b, fun q z => ?_⟩, g.st.trans (same_new hs), g.fr, g.on, fun q u m e t n => ?_⟩
  · have ne : q ≠ p := fun c => (g.o.m q z).2 (by rw [c]; exact h0)
    rw [upd_ne ne]
    exact g.k.m q z
  · rw [upd_ne (ne_of_none e h0)]
    exact g.nw q u m e t n
/-- a tuple that stands in H is put among what stays -/
theorem Ok.seeT {p : Addr} {xs : List V} (h : Ok md S H) (hp : H p = some (.tup xs)) : Gr md S H (upd S p (.tup xs)) H := by
  have hn : ¬ md.M p := fun z => md.nt H p _ h.b z hp
  refine ⟨h, ⟨same_in h.le hp, h.b, fun q z => ?_⟩, fun q u e => ?_, fun _ _ _ e => e, fun _ e => e, fun q u m e t n => ?_⟩
  · have ne : q ≠ p := fun c => hn (c ▸ z)
    rw [upd_ne ne]
    exact h.m q z
  · by_cases c : q = p
    · rw [c] at e ⊢
      have := h.le _ _ e
      rw [hp] at this
      rw [upd_same]
      exact this
    · rw [upd_ne c]
      exact e
  · have ne : q ≠ p := fun c => by
      rw [c, hp] at e
      cases e
      exact t
    rw [upd_ne ne]
    exact n
/-- the mode's own object changes -/
theorem Gr.chg {p : Addr} {o : HO} (g : Gr md S0 H0 S H) (hm : md.M p) (hb : md.B (upd H p o)) : Gr md S0 H0 S (upd H p o) := by
  have hs := (g.k.m p hm).1
  refine ⟨g.o, ⟨same_mut g.k.le hs, hb, fun q z => ⟨(g.k.m q z).1, fun e => ?_⟩⟩, g.st, fun q u n e => ?_, fun q e z => ?_, g.nw⟩
  · by_cases c : q = p
    · rw [c, upd_same] at e
      cases e
    · rw [upd_ne c] at e
      exact (g.k.m q z).2 e
  · have ne : q ≠ p := fun c => n (by rw [c]; exact hm)
    rw [upd_ne ne]
    exact g.fr q u n e
  · by_cases c : q = p
    · rw [c, upd_same] at z
      cases z
    · rw [upd_ne c] at z
      exact g.on q e z
theorem some_of {H : Hp} {p : Addr} (h : H p ≠ none) : ∃ o, H p = some o := by
  cases e : H p with
  | none => exact absurd e h
  | some o => exact ⟨o, rfl⟩
/-- from a step of a def that changes nothing -/
theorem Gr.lift (g : Gr md0 S H S' H') (h : Ok md S H) : Gr md S H S' H' := by
  refine ⟨h, ⟨g.k.le, md.up H H' (fun p o e => g.fr p o (fun z => z) e) h.b, fun p z => ⟨?_, g.on p (h.m p z).2⟩⟩, g.st, fun p o _ e => g.fr p o (fun z => z) e, g.on, fun p o _ e t n => g.nw p o (fun z => z) e t n⟩
  obtain ⟨o, e⟩ := some_of (h.m p z).2
  exact g.nw p o (fun z => z) e (md.nt H p o h.b z e) (h.m p z).1
theorem Gr.keep {p : Addr} {o : HO} (g : Gr md S H S' H') (hs : S p = none) (h : H p = some o) (hm : ¬ md.M p) (nt : NoTup o := by exact True.intro) : H' p = some o ∧ S' p = none :=
  ⟨g.fr p o hm h, g.nw p o hm h nt hs⟩
/-- an object of our own is not the mode's -/
theorem Gr.nm {p : Addr} (g : Gr md S0 H0 S H) (h0 : H0 p = none) : ¬ md.M p := fun z => (g.o.m p z).2 h0

/-! ### what a value is, from the stable heap -/
structure Ty where
  ok : Hp → V → Prop
  up : ∀ {S S' v}, Same S S' → ok S v → ok S' v
mutual
/-- data at any depth, all of it tracked -/
inductive Dd (S : Hp) : V → PyData → Prop
  | non : Dd S .non .none
  | bl (b : Bool) : Dd S (.bl b) (.bool b)
  | int (i : Int) : Dd S (.int i) (.int i)
  | str (x : Str) : Dd S (.str x) (.str x)
  | lst {a : Addr} {xs : List V} {ds : List PyData} : S a = some (.lst xs) → DdAll S xs ds → Dd S (.ref a) (.list ds)
  | tup {a : Addr} {xs : List V} {ds : List PyData} : S a = some (.tup xs) → DdAll S xs ds → Dd S (.ref a) (.tuple ds)
inductive DdAll (S : Hp) : List V → List PyData → Prop
  | nil : DdAll S [] []
  | cons {v : V} {vs : List V} {d : PyData} {ds : List PyData} : Dd S v d → DdAll S vs ds → DdAll S (v :: vs) (d :: ds)
end
mutual
theorem Dd.up (e : Same S S') : ∀ (d : PyData) {v : V}, Dd S v d → Dd S' v d
  | .none, _, h => by cases h; exact .non
  | .bool _, _, h => by cases h; exact .bl _
  | .int _, _, h => by cases h; exact .int _
  | .str _, _, h => by cases h; exact .str _
  | .list ds, _, h => by
    cases h with
    | lst h1 h2 => exact .lst (e _ _ h1) (DdAll.up e ds h2)
  | .tuple ds, _, h => by
    cases h with
    | tup h1 h2 => exact .tup (e _ _ h1) (DdAll.up e ds h2)
  | .dict _, _, h => by cases h
theorem DdAll.up (e : Same S S') : ∀ (ds : List PyData) {vs : List V}, DdAll S vs ds → DdAll S' vs ds
  | [], _, h => by cases h; exact .nil
  | d :: ds, _, h => by
    cases h with
    | cons h1 h2 => exact .cons (Dd.up e d h1) (DdAll.up e ds h2)
end
mutual
theorem Dd.dp {K : PySem.W.Frag} (e : Same S H) : ∀ (d : PyData) {v : V}, Dd S v d → Dp K H v d
  | .none, _, h => by cases h; exact .non
  | .bool _, _, h => by cases h; exact .bl _
  | .int _, _, h => by cases h; exact .int _
  | .str _, _, h => by cases h; exact .str _
  | .list ds, _, h => by
    cases h with
    | lst h1 h2 => exact .lst (SqL.of (e _ _ h1)) (DdAll.dp e ds h2)
  | .tuple ds, _, h => by
    cases h with
    | tup h1 h2 => exact .tup (SqT.of (e _ _ h1)) (DdAll.dp e ds h2)
  | .dict _, _, h => by cases h
theorem DdAll.dp {K : PySem.W.Frag} (e : Same S H) : ∀ (ds : List PyData) {vs : List V}, DdAll S vs ds → DpAll K H vs ds
  | [], _, h => by cases h; exact .nil
  | d :: ds, _, h => by
    cases h with
    | cons h1 h2 => exact .cons (Dd.dp e d h1) (DdAll.dp e ds h2)
end
def D (d : PyData) : Ty := ⟨fun S v => Dd S v d, fun e h => Dd.up e d h⟩
/-- values, each as it should be -/
inductive All (S : Hp) : List V → List Ty → Prop
  | nil : All S [] []
  | cons {v : V} {vs : List V} {t : Ty} {ts : List Ty} : t.ok S v → All S vs ts → All S (v :: vs) (t :: ts)
theorem All.up (e : Same S S') : ∀ {vs : List V} {ts : List Ty}, All S vs ts → All S' vs ts
  | _, _, .nil => .nil
  | _, _, .cons h1 h2 => .cons (Ty.up _ e h1) (All.up e h2)
theorem All.len : ∀ {vs : List V} {ts : List Ty}, All S vs ts → vs.length = ts.length
  | _, _, .nil => rfl
  | _, _, .cons _ h2 => by rw [List.length_cons, List.length_cons, All.len h2]
theorem All.at : ∀ {vs : List V} {ts : List Ty} {i : Nat} {t : Ty}, All S vs ts → ts[i]? = some t → ∃ v, vs[i]? = some v ∧ t.ok S v
  | _, _, 0, _, .cons h1 _, e => by cases e; exact ⟨_, rfl, h1⟩
  | _, _, i + 1, _, .cons _ h2, e => by
    obtain ⟨v, q, r⟩ := All.at (i := i) h2 e
    exact ⟨v, q, r⟩
theorem All.app : ∀ {vs ws : List V} {ts us : List Ty}, All S vs ts → All S ws us → All S (vs ++ ws) (ts ++ us)
  | _, _, _, _, .nil, h => h
  | _, _, _, _, .cons a b, h => .cons a (All.app b h)
theorem All.ofD : ∀ {vs : List V} {ds : List PyData}, DdAll S vs ds → All S vs (ds.map D)
  | _, [], h => by cases h; exact .nil
  | _, _ :: _, h => by
    cases h with
    | cons h1 h2 => exact .cons h1 (All.ofD h2)
theorem All.toD : ∀ {vs : List V} {ds : List PyData}, All S vs (ds.map D) → DdAll S vs ds
  | _, [], h => by cases h; exact .nil
  | _, _ :: _, h => by
    cases h with
    | cons h1 h2 => exact .cons h1 (All.toD h2)
theorem DdAll.len : ∀ {vs : List V} {ds : List PyData}, DdAll S vs ds → vs.length = ds.length := fun h => by
  have := (All.ofD h).len
  rw [List.length_map] at this
  exact this
theorem DdAll.at {vs : List V} {ds : List PyData} {i : Nat} {d : PyData} (h : DdAll S vs ds) (e : ds[i]? = some d) : ∃ v, vs[i]? = some v ∧ Dd S v d :=
  All.at (t := D d) (All.ofD h) (by rw [List.getElem?_map, e]; rfl)
theorem DdAll.app {vs ws : List V} {ds es : List PyData} (h : DdAll S vs ds) (k : DdAll S ws es) : DdAll S (vs ++ ws) (ds ++ es) := All.toD (by
  rw [List.map_append]
  exact All.app (All.ofD h) (All.ofD k))
/-- a tuple, a list of such -/
def TupT (ts : List Ty) : Ty := ⟨fun S v => ∃ a vs, v = .ref a ∧ S a = some (.tup vs) ∧ All S vs ts, fun e ⟨a, vs, h1, h2, h3⟩ => ⟨a, vs, h1, e _ _ h2, h3.up e⟩⟩
def LstT (ts : List Ty) : Ty := ⟨fun S v => ∃ a vs, v = .ref a ∧ S a = some (.lst vs) ∧ All S vs ts, fun e ⟨a, vs, h1, h2, h3⟩ => ⟨a, vs, h1, e _ _ h2, h3.up e⟩⟩
/-- this very value -/
def IsV (v : V) : Ty := ⟨fun _ u => u = v, fun _ h => h⟩
theorem D_tup {ds : List PyData} {v : V} : (D (.tuple ds)).ok S v ↔ (TupT (ds.map D)).ok S v := by
  constructor
  · intro h
    have h' : Dd S v (.tuple ds) := h
    cases h' with
    | tup h1 h2 => exact ⟨_, _, rfl, h1, All.ofD h2⟩
  · rintro ⟨a, vs, rfl, h1, h2⟩
    exact Dd.tup h1 (All.toD h2)
theorem D_lst {ds : List PyData} {v : V} : (D (.list ds)).ok S v ↔ (LstT (ds.map D)).ok S v := by
  constructor
  · intro h
    have h' : Dd S v (.list ds) := h
    cases h' with
    | lst h1 h2 => exact ⟨_, _, rfl, h1, All.ofD h2⟩
  · rintro ⟨a, vs, rfl, h1, h2⟩
    exact Dd.lst h1 (All.toD h2)
theorem D_int {i : Int} {v : V} (h : (D (.int i)).ok S v) : v = .int i := by
  have h' : Dd S v (.int i) := h
  cases h'
  rfl
theorem D_str {i : Str} {v : V} (h : (D (.str i)).ok S v) : v = .str i := by
  have h' : Dd S v (.str i) := h
  cases h'
  rfl
theorem D_bl {i : Bool} {v : V} (h : (D (.bool i)).ok S v) : v = .bl i := by
  have h' : Dd S v (.bool i) := h
  cases h'
  rfl
theorem D_non {v : V} (h : (D .none).ok S v) : v = .non := by
  have h' : Dd S v .none := h
  cases h'
  rfl

/-! ### what an expression gives -/
variable {K : PySem.W.Frag} {σ : L2.St} {ta tb te tx : TE} {t u : TT} {P P1 P2 P3 : Ty}
def Ev (md : Md) (S : Hp) (te : TE) (σ : L2.St) (P : Ty) : Prop := ∀ S1 H R, Same S S1 → Ok md S1 H → (∀ v S' H', Gr md S1 H S' H' → P.ok S' v → R v H') → te σ H R
def EvT (md : Md) (S : Hp) (t : TT) (σ : L2.St) (b : Bool) : Prop := ∀ S1 H R, Same S S1 → Ok md S1 H → (∀ S' H', Gr md S1 H S' H' → R b H') → t σ H R
def EvA (md : Md) (S : Hp) (t : TA) (σ : L2.St) (ts : List Ty) : Prop := ∀ S1 H R, Same S S1 → Ok md S1 H → (∀ vs S' H', Gr md S1 H S' H' → All S' vs ts → R vs H') → t σ H R
theorem Ev.up (h : Ev md S te σ P) (e : Same S S') : Ev md S' te σ P := fun S1 H R a b k => h S1 H R (e.trans a) b k
theorem EvT.up {b : Bool} (h : EvT md S t σ b) (e : Same S S') : EvT md S' t σ b := fun S1 H R a b k => h S1 H R (e.trans a) b k
theorem EvA.up {ta : TA} {ts : List Ty} (h : EvA md S ta σ ts) (e : Same S S') : EvA md S' ta σ ts := fun S1 H R a b k => h S1 H R (e.trans a) b k
theorem Ev.conv (h : Ev md S te σ P) (c : ∀ S v, P.ok S v → P1.ok S v) : Ev md S te σ P1 := fun S1 H R a b k => h S1 H R a b fun v S' H' g hv => k v S' H' g (c S' v hv)
theorem Ev.tupD {ds : List PyData} (h : Ev md S te σ (TupT (ds.map D))) : Ev md S te σ (D (.tuple ds)) := h.conv fun _ _ => D_tup.2
theorem Ev.lstD {ds : List PyData} (h : Ev md S te σ (LstT (ds.map D))) : Ev md S te σ (D (.list ds)) := h.conv fun _ _ => D_lst.2
theorem Ev.Dtup {ds : List PyData} (h : Ev md S te σ (D (.tuple ds))) : Ev md S te σ (TupT (ds.map D)) := h.conv fun _ _ => D_tup.1
theorem Ev.Dlst {ds : List PyData} (h : Ev md S te σ (D (.list ds))) : Ev md S te σ (LstT (ds.map D)) := h.conv fun _ _ => D_lst.1
theorem Ev.eq {d e : PyData} (h : Ev md S te σ (D d)) (q : d = e) : Ev md S te σ (D e) := by
  rw [← q]
  exact h
theorem EvT.eq {b c : Bool} (h : EvT md S t σ b) (q : b = c) : EvT md S t σ c := by
  rw [← q]
  exact h
theorem Ev.go {R : VK} (h : Ev md S te σ P) (g : Gr md S0 H0 S H) (k : ∀ v S' H', Gr md S0 H0 S' H' → Gr md S H S' H' → P.ok S' v → R v H') : te σ H R :=
  h S H R (Same.refl S) g.k fun v S' H' g' hv => k v S' H' (g.trans g') g' hv
theorem ev_var {i : Nat} {v : V} (hv : P.ok S v) (h : σ[i]? = some (some v) := by rfl) : Ev md S (tVar i) σ P := fun S1 H R a b k => ⟨v, h, k v S1 H (Gr.refl b) (P.up a hv)⟩
theorem ev_c {v : V} (h : ∀ S, P.ok S v) : Ev md S (tC v) σ P := fun S1 H R a b k => k v S1 H (Gr.refl b) (h S1)
theorem ev_int {i : Int} : Ev md S (tC (.int i)) σ (D (.int i)) := ev_c fun _ => Dd.int i
theorem ev_str {i : Str} : Ev md S (tC (.str i)) σ (D (.str i)) := ev_c fun _ => Dd.str i
theorem ev_non : Ev md S (tC .non) σ (D .none) := ev_c fun _ => Dd.non
theorem ev_bl {i : Bool} : Ev md S (tC (.bl i)) σ (D (.bool i)) := ev_c fun _ => Dd.bl i
/-- what an operation on values gives -/
def RV (md : Md) (S : Hp) (r : R2) (x y : V) (P : Ty) : Prop := ∀ S1 H R, Same S S1 → Ok md S1 H → (∀ v S' H', Gr md S1 H S' H' → P.ok S' v → R v H') → r x y H R
theorem ev_op {r : R2} (h1 : Ev md S ta σ P1) (h2 : Ev md S tb σ P2) (hr : ∀ S1 x y, Same S S1 → P1.ok S1 x → P2.ok S1 y → RV md S1 r x y P) : Ev md S (tOp r ta tb) σ P := fun S1 H R a b k =>
  h1 S1 H _ a b fun x S2 H2 g2 hx => h2 S2 H2 _ (a.trans g2.st) g2.k fun y S3 H3 g3 hy => hr S3 x y ((a.trans g2.st).trans g3.st) (P1.up g3.st hx) hy S3 H3 _ (Same.refl _) g3.k fun v S4 H4 g4 hv => k v S4 H4 ((g2.trans g3).trans g4) hv
theorem rv_I0 {g : Int → Int → V} {i j : Int} (h : ∀ S, P.ok S (g i j)) : RV md S (rI0 g) (.int i) (.int j) P := fun S1 H R _ b k => ⟨i, j, rfl, rfl, k _ S1 H (Gr.refl b) (h S1)⟩
theorem rv_I {C : Int → Int → Prop} {g : Int → Int → V} {i j : Int} (hc : C i j) (h : ∀ S, P.ok S (g i j)) : RV md S (rI C g) (.int i) (.int j) P := fun S1 H R _ b k => ⟨i, j, rfl, rfl, hc, k _ S1 H (Gr.refl b) (h S1)⟩
/-- + - of numbers -/
theorem ev_opI {g : Int → Int → Int} {i j : Int} (h1 : Ev md S ta σ (D (.int i))) (h2 : Ev md S tb σ (D (.int j))) : Ev md S (tOp (rI0 fun i j => .int (g i j)) ta tb) σ (D (.int (g i j))) :=
  ev_op h1 h2 fun S1 x y _ hx hy => by
    rw [D_int hx, D_int hy]
    exact rv_I0 fun _ => Dd.int _
theorem ev_opB {g : Int → Int → Bool} {i j : Int} (h1 : Ev md S ta σ (D (.int i))) (h2 : Ev md S tb σ (D (.int j))) : Ev md S (tOp (rI0 fun i j => .bl (g i j)) ta tb) σ (D (.bool (g i j))) :=
  ev_op h1 h2 fun S1 x y _ hx hy => by
    rw [D_int hx, D_int hy]
    exact rv_I0 fun _ => Dd.bl _
theorem ev_opC {C : Int → Int → Prop} {g : Int → Int → Int} {i j : Int} (h1 : Ev md S ta σ (D (.int i))) (h2 : Ev md S tb σ (D (.int j))) (hc : C i j) : Ev md S (tOp (rI C fun i j => .int (g i j)) ta tb) σ (D (.int (g i j))) :=
  ev_op h1 h2 fun S1 x y _ hx hy => by
    rw [D_int hx, D_int hy]
    exact rv_I hc fun _ => Dd.int _
theorem ev_eqI {i j : Int} (h1 : Ev md S ta σ (D (.int i))) (h2 : Ev md S tb σ (D (.int j))) : Ev md S (tOp rEq ta tb) σ (D (.bool (decide (i = j)))) :=
  ev_op h1 h2 fun S1 x y _ hx hy => by
    rw [D_int hx, D_int hy]
    exact fun S2 H R _ b k => ⟨rfl, k _ S2 H (Gr.refl b) (by
      have e : decide (V.int i = V.int j) = decide (i = j) := by simp
      rw [e]
      exact Dd.bl _)⟩
theorem ev_neI {i j : Int} (h1 : Ev md S ta σ (D (.int i))) (h2 : Ev md S tb σ (D (.int j))) : Ev md S (tOp rNe ta tb) σ (D (.bool (!decide (i = j)))) :=
  ev_op h1 h2 fun S1 x y _ hx hy => by
    rw [D_int hx, D_int hy]
    exact fun S2 H R _ b k => ⟨rfl, k _ S2 H (Gr.refl b) (by
      have e : decide (V.int i = V.int j) = decide (i = j) := by simp
      rw [e]
      exact Dd.bl _)⟩
theorem ev_eqS {i j : Str} (h1 : Ev md S ta σ (D (.str i))) (h2 : Ev md S tb σ (D (.str j))) : Ev md S (tOp rEq ta tb) σ (D (.bool (decide (i = j)))) :=
  ev_op h1 h2 fun S1 x y _ hx hy => by
    rw [D_str hx, D_str hy]
    exact fun S2 H R _ b k => ⟨rfl, k _ S2 H (Gr.refl b) (by
      have e : decide (V.str i = V.str j) = decide (i = j) := by simp
      rw [e]
      exact Dd.bl _)⟩
theorem ev_neS {i j : Str} (h1 : Ev md S ta σ (D (.str i))) (h2 : Ev md S tb σ (D (.str j))) : Ev md S (tOp rNe ta tb) σ (D (.bool (!decide (i = j)))) :=
  ev_op h1 h2 fun S1 x y _ hx hy => by
    rw [D_str hx, D_str hy]
    exact fun S2 H R _ b k => ⟨rfl, k _ S2 H (Gr.refl b) (by
      have e : decide (V.str i = V.str j) = decide (i = j) := by simp
      rw [e]
      exact Dd.bl _)⟩
/-! tuples and lists by place -/
theorem ev_ixT {ts : List Ty} {i : Int} {j : Nat} (h1 : Ev md S ta σ (TupT ts)) (h2 : Ev md S tb σ (D (.int i))) (hj : ixN ts.length i = some j) (he : ts[j]? = some P) : Ev md S (tOp (rIxT K) ta tb) σ P :=
  ev_op h1 h2 fun S1 x y _ hx hy => by
    obtain ⟨a, vs, rfl, h, hv⟩ := hx
    rw [D_int hy]
    obtain ⟨v, e, q⟩ := hv.at he
    exact fun S2 H R c b k => ⟨a, vs, i, v, rfl, rfl, SqT.of (b.le _ _ (c _ _ h)), by
      unfold atI
      rw [hv.len, hj]
      exact e, k v S2 H (Gr.refl b) (P.up c q)⟩
theorem ev_ixL {ts : List Ty} {i : Int} {j : Nat} (h1 : Ev md S ta σ (LstT ts)) (h2 : Ev md S tb σ (D (.int i))) (hj : ixN ts.length i = some j) (he : ts[j]? = some P) : Ev md S (tOp (rIxL K) ta tb) σ P :=
  ev_op h1 h2 fun S1 x y _ hx hy => by
    obtain ⟨a, vs, rfl, h, hv⟩ := hx
    rw [D_int hy]
    obtain ⟨v, e, q⟩ := hv.at he
    exact fun S2 H R c b k => ⟨a, vs, i, v, rfl, rfl, SqL.of (b.le _ _ (c _ _ h)), by
      unfold atI
      rw [hv.len, hj]
      exact e, k v S2 H (Gr.refl b) (P.up c q)⟩
end KD
end
section
set_option linter.all false
set_option maxRecDepth 100000
set_option maxHeartbeats 4000000
namespace KD
open PySem PySem.Spec PyProof.Rows L2 KR
variable {md : Md} {S H S' H' S1 H1 S0 H0 : Hp} {K : PySem.W.Frag} {σ : L2.St} {ta tb te tx : TE} {t u : TT} {P P1 P2 P3 : Ty}

/-! ### arguments, displays -/
theorem ea_nil : EvA md S tNil σ [] := fun S1 H R a b k => k [] S1 H (Gr.refl b) .nil
theorem ea_cons {tr : TA} {ts : List Ty} (h : Ev md S ta σ P) (hr : EvA md S tr σ ts) : EvA md S (tCons ta tr) σ (P :: ts) := fun S1 H R a b k =>
  h S1 H _ a b fun v S2 H2 g2 hv => hr S2 H2 _ (a.trans g2.st) g2.k fun vs S3 H3 g3 hvs => k _ S3 H3 (g2.trans g3) (.cons (P.up g3.st hv) hvs)
theorem ea1 (h : Ev md S ta σ P) : EvA md S (tCons ta tNil) σ [P] := ea_cons h ea_nil
theorem ea2 (h : Ev md S ta σ P) (h2 : Ev md S tb σ P2) : EvA md S (tCons ta (tCons tb tNil)) σ [P, P2] := ea_cons h (ea1 h2)
theorem ea3 {tc : TE} (h : Ev md S ta σ P) (h2 : Ev md S tb σ P2) (h3 : Ev md S tc σ P3) : EvA md S (tCons ta (tCons tb (tCons tc tNil))) σ [P, P2, P3] := ea_cons h (ea2 h2 h3)
theorem All.one {vs : List V} (h : All S vs [P]) : ∃ v, vs = [v] ∧ P.ok S v := by
  cases h with
  | cons a b => cases b; exact ⟨_, rfl, a⟩
theorem All.two {vs : List V} (h : All S vs [P, P1]) : ∃ v w, vs = [v, w] ∧ P.ok S v ∧ P1.ok S w := by
  cases h with
  | cons a b =>
    obtain ⟨w, rfl, q⟩ := All.one b
    exact ⟨_, w, rfl, a, q⟩
theorem All.three {vs : List V} (h : All S vs [P, P1, P2]) : ∃ v w x, vs = [v, w, x] ∧ P.ok S v ∧ P1.ok S w ∧ P2.ok S x := by
  cases h with
  | cons a b =>
    obtain ⟨w, x, rfl, q, r⟩ := All.two b
    exact ⟨_, w, x, rfl, a, q, r⟩
theorem All.four {vs : List V} (h : All S vs [P, P1, P2, P3]) : ∃ v w x y, vs = [v, w, x, y] ∧ P.ok S v ∧ P1.ok S w ∧ P2.ok S x ∧ P3.ok S y := by
  cases h with
  | cons a b =>
    obtain ⟨w, x, y, rfl, q, r, s⟩ := All.three b
    exact ⟨_, w, x, y, rfl, a, q, r, s⟩
theorem ev_tup {ta : TA} {ts : List Ty} (h : EvA md S ta σ ts) (hl : ts.length ≤ 100000 := by first | decide | simp) : Ev md S (tTup ta) σ (TupT ts) := fun S1 H R a b k =>
  h S1 H _ a b fun vs S2 H2 g2 hvs => ⟨Nat.le_trans (by rw [hvs.len]; exact hl) (by decide), fun p hp => by
    have n := g2.k.new (o := .tup vs) hp
    exact k _ _ _ (g2.trans n) ⟨p, vs, rfl, upd_same, hvs.up n.st⟩⟩
theorem ev_lst {ta : TA} {ts : List Ty} (h : EvA md S ta σ ts) (hl : ts.length ≤ 100000 := by first | decide | simp) : Ev md S (tLst ta) σ (LstT ts) := fun S1 H R a b k =>
  h S1 H _ a b fun vs S2 H2 g2 hvs => ⟨Nat.le_trans (by rw [hvs.len]; exact hl) (by decide), fun p hp => by
    have n := g2.k.new (o := .lst vs) hp
    exact k _ _ _ (g2.trans n) ⟨p, vs, rfl, upd_same, hvs.up n.st⟩⟩
theorem ev_tupD {ta : TA} {ds : List PyData} (h : EvA md S ta σ (ds.map D)) (hl : ds.length ≤ 100000 := by first | decide | simp) : Ev md S (tTup ta) σ (D (.tuple ds)) := Ev.tupD (ev_tup h (by rw [List.length_map]; exact hl))
theorem ev_lstD {ta : TA} {ds : List PyData} (h : EvA md S ta σ (ds.map D)) (hl : ds.length ≤ 100000 := by first | decide | simp) : Ev md S (tLst ta) σ (D (.list ds)) := Ev.lstD (ev_lst h (by rw [List.length_map]; exact hl))

/-! ### calls of built-ins, methods -/
def rLenS (K : PySem.W.Frag) : List V → Hp → VK → Prop := fun xs H Q => ∃ p ys, xs = [.ref p] ∧ (SqL K H p ys ∨ SqT K H p ys) ∧ Q (.int ys.length) H
def rListS (K : PySem.W.Frag) : List V → Hp → VK → Prop := fun xs H Q => ∃ p ys, xs = [.ref p] ∧ (SqL K H p ys ∨ SqT K H p ys) ∧ ∀ l, H l = none → Q (.ref l) (upd H l (.lst ys))
def rTupS (K : PySem.W.Frag) : List V → Hp → VK → Prop := fun xs H Q => ∃ p ys, xs = [.ref p] ∧ ((SqL K H p ys ∧ ∀ l, H l = none → Q (.ref l) (upd H l (.tup ys))) ∨ (SqT K H p ys ∧ Q (.ref p) H))

theorem ev_cb {r : List V → Hp → VK → Prop} {ta : TA} {ts : List Ty} (h : EvA md S ta σ ts) (hr : ∀ S1 vs, Same S S1 → All S1 vs ts → ∀ H R, Ok md S1 H → (∀ v S' H', Gr md S1 H S' H' → P.ok S' v → R v H') → r vs H R) : Ev md S (tCB r ta) σ P := fun S1 H R a b k =>
  h S1 H _ a b fun vs S2 H2 g2 hvs => hr S2 vs (a.trans g2.st) hvs H2 R g2.k fun v S3 H3 g3 hv => k v S3 H3 (g2.trans g3) hv
/-- len of a list, a tuple, a text -/
theorem ev_lenL {ts : List Ty} (h : Ev md S te σ (LstT ts)) : Ev md S (tCB (rLenS K) (tCons te tNil)) σ (D (.int (ts.length : Nat))) :=
  ev_cb (ea1 h) fun S1 vs e hv H R b k => by
    obtain ⟨v, rfl, a, ws, rfl, h1, h2⟩ := hv.one
    exact ⟨a, ws, rfl, .inl (SqL.of (b.le _ _ h1)), k _ S1 H (Gr.refl b) (by rw [h2.len]; exact Dd.int _)⟩
theorem ev_lenT {ts : List Ty} (h : Ev md S te σ (TupT ts)) : Ev md S (tCB (rLenS K) (tCons te tNil)) σ (D (.int (ts.length : Nat))) :=
  ev_cb (ea1 h) fun S1 vs e hv H R b k => by
    obtain ⟨v, rfl, a, ws, rfl, h1, h2⟩ := hv.one
    exact ⟨a, ws, rfl, .inr (SqT.of (b.le _ _ h1)), k _ S1 H (Gr.refl b) (by rw [h2.len]; exact Dd.int _)⟩
theorem ev_lenDL {ds : List PyData} (h : Ev md S te σ (D (.list ds))) : Ev md S (tCB (rLenS K) (tCons te tNil)) σ (D (.int (ds.length : Nat))) := by
  have := ev_lenL (K := K) h.Dlst
  rw [List.length_map] at this
  exact this
theorem ev_lenDT {ds : List PyData} (h : Ev md S te σ (D (.tuple ds))) : Ev md S (tCB (rLenS K) (tCons te tNil)) σ (D (.int (ds.length : Nat))) := by
  have := ev_lenT (K := K) h.Dtup
  rw [List.length_map] at this
  exact this
theorem ev_sum {ns : List Int} (h : Ev md S te σ (D (.list (ns.map PyData.int)))) : Ev md S (tCB (rSum K) (tCons te tNil)) σ (D (.int ns.sum)) :=
  ev_cb (ea1 h) fun S1 vs e hv H R b k => by
    obtain ⟨v, rfl, hw⟩ := hv.one
    have hv' : Dd S1 v _ := hw
    cases hv' with
    | @lst a xs _ h1 h2 =>
      have : xs = ns.map V.int := by
        clear h1 hw hv k b R H e h
        revert h2
        induction ns generalizing xs with
        | nil => intro h2; cases h2; rfl
        | cons n ns ih =>
          intro h2
          cases h2 with
          | cons q1 q2 =>
            cases q1
            rw [ih q2]
            rfl
      exact ⟨a, ns, rfl, SqL.of (by rw [← this]; exact b.le _ _ h1), k _ S1 H (Gr.refl b) (Dd.int _)⟩
theorem bls_of {xs : List V} {bs : List Bool} (h : DdAll S xs (bs.map PyData.bool)) : xs = bs.map V.bl := by
  induction bs generalizing xs with
  | nil => cases h; rfl
  | cons n ns ih =>
    cases h with
    | cons q1 q2 =>
      cases q1
      rw [ih q2]
      rfl
theorem ints_of {xs : List V} {bs : List Int} (h : DdAll S xs (bs.map PyData.int)) : xs = bs.map V.int := by
  induction bs generalizing xs with
  | nil => cases h; rfl
  | cons n ns ih =>
    cases h with
    | cons q1 q2 =>
      cases q1
      rw [ih q2]
      rfl
theorem strs_of {xs : List V} {bs : List Str} (h : DdAll S xs (bs.map PyData.str)) : xs = bs.map V.str := by
  induction bs generalizing xs with
  | nil => cases h; rfl
  | cons n ns ih =>
    cases h with
    | cons q1 q2 =>
      cases q1
      rw [ih q2]
      rfl
theorem DdAll.ints : ∀ (bs : List Int), DdAll S (bs.map V.int) (bs.map PyData.int)
  | [] => .nil
  | _ :: bs => .cons (.int _) (DdAll.ints bs)
theorem DdAll.strs : ∀ (bs : List Str), DdAll S (bs.map V.str) (bs.map PyData.str)
  | [] => .nil
  | _ :: bs => .cons (.str _) (DdAll.strs bs)
theorem ev_all {bs : List Bool} (h : Ev md S te σ (D (.list (bs.map PyData.bool)))) : Ev md S (tCB (rAll K) (tCons te tNil)) σ (D (.bool (bs.all id))) :=
  ev_cb (ea1 h) fun S1 vs e hv H R b k => by
    obtain ⟨v, rfl, hw⟩ := hv.one
    have hv' : Dd S1 v _ := hw
    cases hv' with
    | @lst a xs _ h1 h2 => exact ⟨a, bs, rfl, SqL.of (by rw [← bls_of h2]; exact b.le _ _ h1), k _ S1 H (Gr.refl b) (Dd.bl _)⟩
/-- list(xs), list(t), tuple(xs), tuple(t) -/
theorem ev_listL {ts : List Ty} (h : Ev md S te σ (LstT ts)) : Ev md S (tCB (rListS K) (tCons te tNil)) σ (LstT ts) :=
  ev_cb (ea1 h) fun S1 vs e hv H R b k => by
    obtain ⟨v, rfl, a, ws, rfl, h1, h2⟩ := hv.one
    exact ⟨a, ws, rfl, .inl (SqL.of (b.le _ _ h1)), fun l hl => k _ _ _ (b.new hl) ⟨l, ws, rfl, upd_same, h2.up (b.new (o := .lst ws) hl).st⟩⟩
theorem ev_listT {ts : List Ty} (h : Ev md S te σ (TupT ts)) : Ev md S (tCB (rListS K) (tCons te tNil)) σ (LstT ts) :=
  ev_cb (ea1 h) fun S1 vs e hv H R b k => by
    obtain ⟨v, rfl, a, ws, rfl, h1, h2⟩ := hv.one
    exact ⟨a, ws, rfl, .inr (SqT.of (b.le _ _ h1)), fun l hl => k _ _ _ (b.new hl) ⟨l, ws, rfl, upd_same, h2.up (b.new (o := .lst ws) hl).st⟩⟩
theorem ev_tupleL {ts : List Ty} (h : Ev md S te σ (LstT ts)) : Ev md S (tCB (rTupS K) (tCons te tNil)) σ (TupT ts) :=
  ev_cb (ea1 h) fun S1 vs e hv H R b k => by
    obtain ⟨v, rfl, a, ws, rfl, h1, h2⟩ := hv.one
    exact ⟨a, ws, rfl, .inl ⟨SqL.of (b.le _ _ h1), fun l hl => k _ _ _ (b.new hl) ⟨l, ws, rfl, upd_same, h2.up (b.new (o := .tup ws) hl).st⟩⟩⟩
theorem ev_tupleT {ts : List Ty} (h : Ev md S te σ (TupT ts)) : Ev md S (tCB (rTupS K) (tCons te tNil)) σ (TupT ts) :=
  ev_cb (ea1 h) fun S1 vs e hv H R b k => by
    obtain ⟨v, rfl, a, ws, rfl, h1, h2⟩ := hv.one
    exact ⟨a, ws, rfl, .inr ⟨SqT.of (b.le _ _ h1), k _ _ _ (Gr.refl b) ⟨a, ws, rfl, h1, h2⟩⟩⟩
/-- x + y of lists, of tuples -/
theorem ev_cat {ts us : List Ty} (h1 : Ev md S ta σ (LstT ts)) (h2 : Ev md S tb σ (LstT us)) (hl : ts.length + us.length ≤ 100000) : Ev md S (tOp rCat ta tb) σ (LstT (ts ++ us)) :=
  ev_op h1 h2 fun S1 x y _ hx hy => by
    obtain ⟨a, vs, rfl, e1, a1⟩ := hx
    obtain ⟨b, ws, rfl, e2, a2⟩ := hy
    exact fun S2 H R e o k => ⟨a, b, vs, ws, rfl, rfl, o.le _ _ (e _ _ e1), o.le _ _ (e _ _ e2), Nat.le_trans (by rw [a1.len, a2.len]; exact hl) (by decide), fun p hp => k _ _ _ (o.new hp) ⟨p, _, rfl, upd_same, All.up (e.trans (o.new (o := .lst (vs ++ ws)) hp).st) (a1.app a2)⟩⟩
theorem ev_catT {ts us : List Ty} (h1 : Ev md S ta σ (TupT ts)) (h2 : Ev md S tb σ (TupT us)) (ht : ts ≠ []) (hu : us ≠ []) (hl : ts.length + us.length ≤ 100000) : Ev md S (tOp (rCatT K) ta tb) σ (TupT (ts ++ us)) :=
  ev_op h1 h2 fun S1 x y _ hx hy => by
    obtain ⟨a, vs, rfl, e1, a1⟩ := hx
    obtain ⟨b, ws, rfl, e2, a2⟩ := hy
    have n1 : vs ≠ [] := fun z => ht (List.eq_nil_of_length_eq_zero (by rw [← a1.len, z]; rfl))
    have n2 : ws ≠ [] := fun z => hu (List.eq_nil_of_length_eq_zero (by rw [← a2.len, z]; rfl))
    exact fun S2 H R e o k => ⟨a, b, vs, ws, rfl, rfl, SqT.of (o.le _ _ (e _ _ e1)), SqT.of (o.le _ _ (e _ _ e2)), n1, Nat.le_trans (by rw [a1.len, a2.len]; exact hl) (by decide), fun z => absurd z n2,
      fun _ p hp => k _ _ _ (o.new hp) ⟨p, _, rfl, upd_same, All.up (e.trans (o.new (o := .tup (vs ++ ws)) hp).st) (a1.app a2)⟩⟩
theorem ev_catA {ts us : List Ty} (h1 : Ev md S ta σ (TupT ts)) (h2 : Ev md S tb σ (TupT us)) (hl : ts.length + us.length ≤ 100000) : Ev md S (tOp (rCatA K) ta tb) σ (TupT (ts ++ us)) :=
  ev_op h1 h2 fun S1 x y _ hx hy => by
    obtain ⟨a, vs, rfl, e1, a1⟩ := hx
    obtain ⟨b, ws, rfl, e2, a2⟩ := hy
    have l1 := a1.len
    have l2 := a2.len
    exact fun S2 H R e o k => ⟨a, b, vs, ws, rfl, rfl, SqT.of (o.le _ _ (e _ _ e1)), SqT.of (o.le _ _ (e _ _ e2)), Nat.le_trans (by rw [a1.len, a2.len]; exact hl) (by decide),
      fun z => k _ _ _ (Gr.refl o) ⟨b, ws, rfl, e _ _ e2, by
        have q : ts = [] := List.eq_nil_of_length_eq_zero (by rw [← l1, z]; rfl)
        rw [q]
        exact a2.up e⟩,
      fun _ z => k _ _ _ (Gr.refl o) ⟨a, vs, rfl, e _ _ e1, by
        have q : us = [] := List.eq_nil_of_length_eq_zero (by rw [← l2, z]; rfl)
        rw [q, List.append_nil]
        exact a1.up e⟩,
      fun _ _ p hp => k _ _ _ (o.new hp) ⟨p, _, rfl, upd_same, All.up (e.trans (o.new (o := .tup (vs ++ ws)) hp).st) (a1.app a2)⟩⟩
theorem All.rep {P : Ty} {v : V} (h : P.ok S v) : ∀ n, All S (List.replicate n v) (List.replicate n P)
  | 0 => .nil
  | n + 1 => .cons h (All.rep h n)
/-- [x] * n -/
theorem ev_rep {n : Nat} (h1 : Ev md S ta σ (LstT [P])) (h2 : Ev md S tb σ (D (.int (n : Nat)))) (hl : n ≤ 100000) : Ev md S (tOp rRep ta tb) σ (LstT (List.replicate n P)) :=
  ev_op h1 h2 fun S1 x y _ hx hy => by
    obtain ⟨a, vs, rfl, e1, a1⟩ := hx
    rw [D_int hy]
    obtain ⟨v, rfl, hv⟩ := a1.one
    refine fun S2 H R e o k => ⟨a, n, [v], rfl, rfl, o.le _ _ (e _ _ e1), by omega, by omega, Nat.le_trans (by simpa using hl) (by decide : 100000 ≤ sizeLine), fun p hp => k _ _ _ (o.new hp) ⟨p, _, rfl, upd_same, ?_⟩⟩
    have q : (List.replicate (n : Int).toNat [v]).flatten = List.replicate n v := by
      rw [Int.toNat_natCast]
      clear hl h2 hy k
      induction n with
      | zero => rfl
      | succ n ih => rw [List.replicate_succ, List.flatten_cons, ih]; rfl
    rw [q]
    exact All.up (e.trans (o.new hp).st) (All.rep hv n)

/-! ### tests -/
theorem et_val {b : Bool} (h : Ev md S te σ (D (.bool b))) : EvT md S (tTest te) σ b := fun S1 H R a o k => h S1 H _ a o fun v S2 H2 g hv => ⟨b, D_bl hv, k S2 H2 g⟩
theorem et_B {b : Bool} (h : Ev md S te σ (D (.bool b))) : EvT md S (tB te) σ b := fun S1 H R a o k => h S1 H _ a o fun v S2 H2 g hv => ⟨b, D_bl hv, k S2 H2 g⟩
theorem et_and {a b : Bool} (h1 : EvT md S t σ a) (h2 : a = true → EvT md S u σ b) : EvT md S (tAnd t u) σ (a && b) := fun S1 H R e o k => h1 S1 H _ e o fun S2 H2 g => by
  cases a with
  | true => exact h2 rfl S2 H2 R (e.trans g.st) g.k fun S3 H3 g3 => k S3 H3 (g.trans g3)
  | false => exact k S2 H2 g
theorem et_or {a b : Bool} (h1 : EvT md S t σ a) (h2 : a = false → EvT md S u σ b) : EvT md S (tOr t u) σ (a || b) := fun S1 H R e o k => h1 S1 H _ e o fun S2 H2 g => by
  cases a with
  | true => exact k S2 H2 g
  | false => exact h2 rfl S2 H2 R (e.trans g.st) g.k fun S3 H3 g3 => k S3 H3 (g.trans g3)
theorem et_not {a : Bool} (h1 : EvT md S t σ a) : EvT md S (tNot t) σ (!a) := fun S1 H R e o k => h1 S1 H _ e o fun S2 H2 g => k S2 H2 g
theorem ev_andV {a b : Bool} (h1 : Ev md S ta σ (D (.bool a))) (h2 : a = true → Ev md S tb σ (D (.bool b))) : Ev md S (tAndV ta tb) σ (D (.bool (a && b))) := fun S1 H R e o k => h1 S1 H _ e o fun v S2 H2 g hv => ⟨a, D_bl hv, by
  cases a with
  | true => exact h2 rfl S2 H2 R (e.trans g.st) g.k fun v S3 H3 g3 hv => k v S3 H3 (g.trans g3) hv
  | false => exact k _ S2 H2 g (Dd.bl _)⟩
theorem ev_orV {a b : Bool} (h1 : Ev md S ta σ (D (.bool a))) (h2 : a = false → Ev md S tb σ (D (.bool b))) : Ev md S (tOrV ta tb) σ (D (.bool (a || b))) := fun S1 H R e o k => h1 S1 H _ e o fun v S2 H2 g hv => ⟨a, D_bl hv, by
  cases a with
  | false => exact h2 rfl S2 H2 R (e.trans g.st) g.k fun v S3 H3 g3 hv => k v S3 H3 (g.trans g3) hv
  | true => exact k _ S2 H2 g (Dd.bl _)⟩
theorem ev_notV {a : Bool} (h1 : Ev md S ta σ (D (.bool a))) : Ev md S (tNotV ta) σ (D (.bool (!a))) := fun S1 H R e o k => h1 S1 H _ e o fun v S2 H2 g hv => ⟨a, D_bl hv, k _ S2 H2 g (Dd.bl _)⟩
theorem ev_if {b : Bool} (h : EvT md S t σ b) (h1 : b = true → Ev md S ta σ P) (h2 : b = false → Ev md S tb σ P) : Ev md S (tIf t ta tb) σ P := fun S1 H R e o k => h S1 H _ e o fun S2 H2 g => by
  cases b with
  | true => exact h1 rfl S2 H2 R (e.trans g.st) g.k fun v S3 H3 g3 hv => k v S3 H3 (g.trans g3) hv
  | false => exact h2 rfl S2 H2 R (e.trans g.st) g.k fun v S3 H3 g3 hv => k v S3 H3 (g.trans g3) hv
/-- lo <= x <= hi -/
theorem ev_chain {p q : Int → Int → Bool} {i j l : Int} {tc : TE} (h1 : Ev md S ta σ (D (.int i))) (h2 : Ev md S tb σ (D (.int j))) (h3 : Ev md S tc σ (D (.int l))) :
    Ev md S (tChain (rI0 fun i j => .bl (p i j)) (rI0 fun i j => .bl (q i j)) ta tb tc) σ (D (.bool (p i j && q j l))) := fun S1 H R e o k =>
  h1 S1 H _ e o fun x S2 H2 g2 hx => h2 S2 H2 _ (e.trans g2.st) g2.k fun y S3 H3 g3 hy => ⟨i, j, D_int hx, D_int hy, p i j, rfl, by
    cases hp : p i j with
    | true =>
      refine h3 S3 H3 _ ((e.trans g2.st).trans g3.st) g3.k fun z S4 H4 g4 hz => ⟨j, l, D_int hy, D_int hz, k _ S4 H4 ((g2.trans g3).trans g4) ?_⟩
      rw [hp]
      exact Dd.bl _
    | false =>
      refine k _ S3 H3 (g2.trans g3) ?_
      rw [hp]
      exact Dd.bl _⟩

/-! ### calls of defs -/
/-- the promise of a def that changes nothing: from what the arguments are (f a) to what comes (g a) -/
def spP {α : Type} (dom : α → Prop) (f : α → List Ty) (g : α → Ty) : Sp := fun vs H Q _ => ∃ (S : Hp) (a : α), dom a ∧ Same S H ∧ All S vs (f a) ∧ ∀ v S' H', Gr md0 S H S' H' → (g a).ok S' v → Q v H'
theorem sp_len {α : Type} {dom : α → Prop} {f : α → List Ty} {g : α → Ty} {n : Nat} (hf : ∀ a, (f a).length = n) {vs : List V} {H : Hp} {Q : VK} {E : XK} (h : spP dom f g vs H Q E) : vs.length = n := by
  obtain ⟨_, a, _, _, hv, _⟩ := h
  rw [hv.len, hf]
theorem ev_call {α : Type} {dom : α → Prop} {f : α → List Ty} {g : α → Ty} {ta : TA} {E : XK} (a : α) (ha : dom a) (h : EvA md S ta σ (f a)) : Ev md S (tCall (spP dom f g) [] E ta) σ (g a) := fun S1 H R e o k =>
  h S1 H _ e o fun vs S2 H2 g2 hvs => ⟨S2, a, ha, g2.k.le, by rw [List.append_nil]; exact hvs, fun v S3 H3 g3 hv => k v S3 H3 (g2.trans (g3.lift g2.k)) hv⟩

/-! ### statements -/
variable {D' : Ends} {tu tw tz : TS} {g : TG}
theorem q_asg {i : Nat} (h : Ev md S te σ P) (g : Gr md S0 H0 S H) (k : ∀ v S' H', Gr md S0 H0 S' H' → Gr md S H S' H' → P.ok S' v → tz D' (σ.set i (some v)) H') : tSeq (tAsg te (gName i)) tz D' σ H := h.go g k
theorem s_asg {i : Nat} (h : Ev md S te σ P) (g : Gr md S0 H0 S H) (k : ∀ v S' H', Gr md S0 H0 S' H' → Gr md S H S' H' → P.ok S' v → D'.nx (σ.set i (some v)) H') : tAsg te (gName i) D' σ H := h.go g k
theorem q_drop (h : Ev md S te σ P) (g : Gr md S0 H0 S H) (k : ∀ v S' H', Gr md S0 H0 S' H' → Gr md S H S' H' → P.ok S' v → tz D' σ H') : tSeq (tDrop te) tz D' σ H := h.go g k
theorem s_ret (h : Ev md S te σ P) (g : Gr md S0 H0 S H) (k : ∀ v S' H', Gr md S0 H0 S' H' → P.ok S' v → D'.rt v H') : tRet te D' σ H := h.go g fun v S' H' g' _ hv => k v S' H' g' hv
theorem q_if {b : Bool} (h : EvT md S t σ b) (g : Gr md S0 H0 S H) (h1 : b = true → ∀ S' H', Gr md S0 H0 S' H' → Gr md S H S' H' → tu { D' with nx := tz D' } σ H') (h2 : b = false → ∀ S' H', Gr md S0 H0 S' H' → Gr md S H S' H' → tw { D' with nx := tz D' } σ H') : tSeq (tIfS t tu tw) tz D' σ H :=
  h S H _ (Same.refl S) g.k fun S' H' g' => by
    cases b with
    | true => exact h1 rfl S' H' (g.trans g') g'
    | false => exact h2 rfl S' H' (g.trans g') g'
theorem s_if {b : Bool} (h : EvT md S t σ b) (g : Gr md S0 H0 S H) (h1 : b = true → ∀ S' H', Gr md S0 H0 S' H' → Gr md S H S' H' → tu D' σ H') (h2 : b = false → ∀ S' H', Gr md S0 H0 S' H' → Gr md S H S' H' → tw D' σ H') : tIfS t tu tw D' σ H :=
  h S H _ (Same.refl S) g.k fun S' H' g' => by
    cases b with
    | true => exact h1 rfl S' H' (g.trans g') g'
    | false => exact h2 rfl S' H' (g.trans g') g'
/-- an if without else whose test fails -/
theorem q_ifF (h : EvT md S t σ false) (g : Gr md S0 H0 S H) (k : ∀ S' H', Gr md S0 H0 S' H' → Gr md S H S' H' → tz D' σ H') : tSeq (tIfS t tu tNext) tz D' σ H :=
  q_if h g (fun z => by cases z) fun _ S' H' a b => k S' H' a b
/-- a, b = e (e a tuple) -/
theorem q_asg2 {i j : Nat} (h : Ev md S te σ (TupT [P, P1])) (g : Gr md S0 H0 S H) (k : ∀ v w S' H', Gr md S0 H0 S' H' → Gr md S H S' H' → P.ok S' v → P1.ok S' w → tz D' ((σ.set i (some v)).set j (some w)) H') :
    tSeq (tAsg te (gTup K 2 (gCons (gName i) (gCons (gName j) gNil)))) tz D' σ H :=
  h.go g fun v S' H' g1 g2 hv => by
    obtain ⟨a, vs, rfl, h1, h2⟩ := hv
    obtain ⟨x, y, rfl, hx, hy⟩ := h2.two
    exact ⟨a, _, rfl, SqT.of (g1.k.le _ _ h1), rfl, _, _, rfl, _, _, rfl, rfl, k x y S' H' g1 g2 hx hy⟩
theorem q_par {i j : Nat} (h : EvA md S (tCons ta (tCons tb tNil)) σ [P, P1]) (g : Gr md S0 H0 S H) (k : ∀ v w S' H', Gr md S0 H0 S' H' → Gr md S H S' H' → P.ok S' v → P1.ok S' w → tz D' ((σ.set i (some v)).set j (some w)) H') :
    tSeq (tPar i j (tCons ta (tCons tb tNil))) tz D' σ H := by
  show tCons ta (tCons tb tNil) σ H fun vs H1 => ∃ v w, vs = [v, w] ∧ tz D' ((σ.set i (some v)).set j (some w)) H1
  refine h S H _ (Same.refl S) g.k fun vs S' H' g' hv => ?_
  obtain ⟨x, y, rfl, hx, hy⟩ := hv.two
  exact ⟨x, y, rfl, k x y S' H' (g.trans g') g' hx hy⟩

/-! ### walks -/
structure Wk (md : Md) (S : Hp) (J : It) (n : Nat) (T : Nat → Hp → V → Prop) : Prop where
  go : ∀ i S1 H, Same S S1 → Ok md S1 H → i < n → J.go i H
  stop : ∀ S1 H, Same S S1 → Ok md S1 H → J.stop n H
  yld : ∀ i S1 H x H', Same S S1 → Ok md S1 H → i < n → J.yld i H x H' → ∃ S2, Gr md S1 H S2 H' ∧ T i S2 x
def EvI (md : Md) (S : Hp) (ti : TI) (σ : L2.St) (n : Nat) (T : Nat → Hp → V → Prop) : Prop := ∀ S1 H R, Same S S1 → Ok md S1 H → (∀ J S' H', Gr md S1 H S' H' → Wk md S' J n T → R J H') → ti σ H R
theorem Wk.up {J : It} {n : Nat} {T : Nat → Hp → V → Prop} (w : Wk md S J n T) (e : Same S S') : Wk md S' J n T :=
  ⟨fun i S1 H a => w.go i S1 H (e.trans a), fun S1 H a => w.stop S1 H (e.trans a), fun i S1 H x H' a => w.yld i S1 H x H' (e.trans a)⟩
theorem EvI.up {ti : TI} {n : Nat} {T : Nat → Hp → V → Prop} (h : EvI md S ti σ n T) (e : Same S S') : EvI md S' ti σ n T := fun S1 H R a => h S1 H R (e.trans a)
theorem EvI.len {ti : TI} {n m : Nat} {T : Nat → Hp → V → Prop} (h : EvI md S ti σ n T) (e : n = m) : EvI md S ti σ m T := by
  rw [← e]
  exact h
theorem ei_list {ts : List Ty} (h : Ev md S te σ (LstT ts)) : EvI md S (iList K te) σ ts.length (fun i S x => ∃ t, ts[i]? = some t ∧ t.ok S x) := fun S1 H R a o k =>
  h S1 H _ a o fun v S2 H2 g2 hv => by
    obtain ⟨p, vs, rfl, h1, h2⟩ := hv
    refine ⟨p, rfl, ⟨vs, SqL.of (g2.k.le _ _ h1)⟩, k _ S2 H2 g2 ⟨fun i S3 H3 e3 o3 hi => ?_, fun S3 H3 e3 o3 => ?_, fun i S3 H3 x H' e3 o3 hi y => ?_⟩⟩
    · have hi' : i < vs.length := by rw [h2.len]; exact hi
      exact ⟨vs, vs[i], SqL.of (o3.le _ _ (e3 _ _ h1)), List.getElem?_eq_getElem hi'⟩
    · exact ⟨vs, SqL.of (o3.le _ _ (e3 _ _ h1)), by rw [h2.len]; exact Nat.le_refl _⟩
    · obtain ⟨rfl, y⟩ := y
      have q := y vs (SqL.of (o3.le _ _ (e3 _ _ h1)))
      obtain ⟨w, e, hw⟩ := (h2.up e3).at (List.getElem?_eq_getElem hi)
      rw [e] at q
      cases q
      exact ⟨S3, Gr.refl o3, _, List.getElem?_eq_getElem hi, hw⟩
theorem ei_tup {ts : List Ty} (h : Ev md S te σ (TupT ts)) : EvI md S (iTup K te) σ ts.length (fun i S x => ∃ t, ts[i]? = some t ∧ t.ok S x) := fun S1 H R a o k =>
  h S1 H _ a o fun v S2 H2 g2 hv => by
    obtain ⟨p, vs, rfl, h1, h2⟩ := hv
    refine ⟨p, rfl, ⟨vs, SqT.of (g2.k.le _ _ h1)⟩, k _ S2 H2 g2 ⟨fun i S3 H3 e3 o3 hi => ?_, fun S3 H3 e3 o3 => ?_, fun i S3 H3 x H' e3 o3 hi y => ?_⟩⟩
    · have hi' : i < vs.length := by rw [h2.len]; exact hi
      exact ⟨vs, vs[i], SqT.of (o3.le _ _ (e3 _ _ h1)), List.getElem?_eq_getElem hi'⟩
    · exact ⟨vs, SqT.of (o3.le _ _ (e3 _ _ h1)), by rw [h2.len]; exact Nat.le_refl _⟩
    · obtain ⟨rfl, y⟩ := y
      have q := y vs (SqT.of (o3.le _ _ (e3 _ _ h1)))
      obtain ⟨w, e, hw⟩ := (h2.up e3).at (List.getElem?_eq_getElem hi)
      rw [e] at q
      cases q
      exact ⟨S3, Gr.refl o3, _, List.getElem?_eq_getElem hi, hw⟩
theorem wk_rng {lo : Int} {n : Nat} : Wk md S (Itr lo n) n (fun i _ x => x = .int (lo + i)) :=
  ⟨fun i S1 H _ _ hi => hi, fun S1 H _ _ => Nat.le_refl _, fun i S1 H x H' _ o hi y => by
    obtain ⟨rfl, rfl⟩ := y
    exact ⟨S1, Gr.refl o, rfl⟩⟩
theorem ei_rng1 {n : Nat} (h : Ev md S te σ (D (.int (n : Nat)))) (hn : n ≤ 100000) : EvI md S (iRng1 (tCons te tNil)) σ n (fun i _ x => x = .int (i : Nat)) := fun S1 H R a o k =>
  ea1 h S1 H _ a o fun vs S2 H2 g2 hv => by
    obtain ⟨v, rfl, hw⟩ := hv.one
    rw [D_int hw]
    refine ⟨n, rfl, by omega, by omega, k _ S2 H2 g2 ?_⟩
    rw [Int.toNat_natCast]
    have w : Wk md S2 (Itr 0 n) n _ := wk_rng
    exact ⟨w.go, w.stop, fun i S1 H x H' a b c d => by
      obtain ⟨S3, g3, e⟩ := w.yld i S1 H x H' a b c d
      exact ⟨S3, g3, by rw [e, Int.zero_add]⟩⟩
theorem ei_rng2 {l n : Nat} (h : Ev md S ta σ (D (.int (l : Nat)))) (h2 : Ev md S tb σ (D (.int (n : Nat)))) (hn : n ≤ 100000) (hl : l ≤ 100000) : EvI md S (iRng2 (tCons ta (tCons tb tNil))) σ (n - l) (fun i _ x => x = .int ((l + i : Nat) : Int)) := fun S1 H R a o k =>
  ea2 h h2 S1 H _ a o fun vs S2 H2 g2 hv => by
    obtain ⟨v, w, rfl, hv, hw⟩ := hv.two
    rw [D_int hv, D_int hw]
    refine ⟨l, n, rfl, by omega, k _ S2 H2 g2 ?_⟩
    have e0 : ((n : Int) - (l : Int)).toNat = n - l := by omega
    rw [e0]
    have w : Wk md S2 (Itr l (n - l)) (n - l) _ := wk_rng
    exact ⟨w.go, w.stop, fun i S1 H x H' a b c d => by
      obtain ⟨S3, g3, e⟩ := w.yld i S1 H x H' a b c d
      exact ⟨S3, g3, by rw [e, Int.natCast_add]⟩⟩
theorem wk_prs {n : Nat} {f : Nat → V × V} {G : Hp → Prop} (hG : ∀ S1 H, Same S S1 → Same S1 H → G H) (T : Nat → Hp → V → V → Prop) (hT : ∀ i S1, Same S S1 → i < n → T i S1 (f i).1 (f i).2) (up : ∀ i S1 S2 x y, Same S1 S2 → T i S1 x y → T i S2 x y) :
    Wk md S (Prs n f G) n (fun i S x => ∃ a u v, x = .ref a ∧ S a = some (.tup [u, v]) ∧ T i S u v) :=
  ⟨fun i S1 H e o hi => ⟨hi, hG S1 H e o.le⟩, fun S1 H e o => ⟨rfl, hG S1 H e o.le⟩, fun i S1 H x H' e o hi y => by
    obtain ⟨A, rfl, hA, rfl⟩ := y
    have n := o.new (o := .tup [(f i).1, (f i).2]) hA
    exact ⟨_, n, A, _, _, rfl, upd_same, up i S1 _ _ _ n.st (hT i S1 e hi)⟩⟩
/-- enumerate of a tuple, of a list; zip of a tuple and a list -/
def Enm (ts : List Ty) (i : Nat) (S : Hp) (x : V) : Prop := ∃ a v t, x = .ref a ∧ S a = some (.tup [.int (i : Nat), v]) ∧ ts[i]? = some t ∧ t.ok S v
theorem ei_enumT {ts : List Ty} (h : Ev md S te σ (TupT ts)) : EvI md S (iEnumT K (tCons te tNil)) σ ts.length (Enm ts) := fun S1 H R a o k =>
  ea1 h S1 H _ a o fun vs S2 H2 g2 hv => by
    obtain ⟨v, rfl, hw⟩ := hv.one
    obtain ⟨p, xs, rfl, h1, h2⟩ := hw
    refine ⟨p, xs, rfl, SqT.of (g2.k.le _ _ h1), k _ S2 H2 g2 ?_⟩
    have w : Wk md S2 (Prs xs.length (enF xs) fun H => SqT K H p xs) xs.length _ := wk_prs (fun S3 H3 e3 l3 => SqT.of (l3 _ _ (e3 _ _ h1))) (fun i S u v => u = .int (i : Nat) ∧ ∃ t, ts[i]? = some t ∧ t.ok S v) (fun i S3 e3 hi => ⟨rfl, by
      have hi' : i < ts.length := by rw [← h2.len]; exact hi
      obtain ⟨v, q, r⟩ := (h2.up e3).at (List.getElem?_eq_getElem hi')
      refine ⟨_, List.getElem?_eq_getElem hi', ?_⟩
      show _
      unfold enF
      rw [getD_of q]
      exact r⟩) (fun i S3 S4 x y e => fun ⟨q, t, r, z⟩ => ⟨q, t, r, t.up e z⟩)
    rw [h2.len] at w ⊢
    exact ⟨w.go, w.stop, fun i S1 H x H' a b c d => by
      obtain ⟨S3, g3, A, u, v, e, e2, rfl, t, r, z⟩ := w.yld i S1 H x H' a b c d
      exact ⟨S3, g3, A, v, t, e, e2, r, z⟩⟩
def Zpd (ts us : List Ty) (i : Nat) (S : Hp) (x : V) : Prop := ∃ a u v t w, x = .ref a ∧ S a = some (.tup [u, v]) ∧ ts[i]? = some t ∧ t.ok S u ∧ us[i]? = some w ∧ w.ok S v
theorem ei_zipTL {ts us : List Ty} (h : Ev md S ta σ (TupT ts)) (h' : Ev md S tb σ (LstT us)) : EvI md S (iZipTL K (tCons ta (tCons tb tNil))) σ (min ts.length us.length) (Zpd ts us) := fun S1 H R a o k =>
  ea2 h h' S1 H _ a o fun vs S2 H2 g2 hv => by
    obtain ⟨v, w, rfl, hv, hw⟩ := hv.two
    obtain ⟨p, xs, rfl, h1, h2⟩ := hv
    obtain ⟨q, ys, rfl, h3, h4⟩ := hw
    refine ⟨p, q, xs, ys, rfl, SqT.of (g2.k.le _ _ h1), SqL.of (g2.k.le _ _ h3), k _ S2 H2 g2 ?_⟩
    have w : Wk md S2 (Prs (min xs.length ys.length) (zpF xs ys) fun H => SqT K H p xs ∧ SqL K H q ys) (min xs.length ys.length) _ := wk_prs (fun S3 H3 e3 l3 => ⟨SqT.of (l3 _ _ (e3 _ _ h1)), SqL.of (l3 _ _ (e3 _ _ h3))⟩)
      (fun i S u v => (∃ t, ts[i]? = some t ∧ t.ok S u) ∧ ∃ t, us[i]? = some t ∧ t.ok S v) (fun i S3 e3 hi => by
      have hi1 : i < ts.length := by rw [← h2.len]; omega
      have hi2 : i < us.length := by rw [← h4.len]; omega
      obtain ⟨v, q, r⟩ := (h2.up e3).at (List.getElem?_eq_getElem hi1)
      obtain ⟨v2, q2, r2⟩ := (h4.up e3).at (List.getElem?_eq_getElem hi2)
      unfold zpF
      rw [getD_of q, getD_of q2]
      exact ⟨⟨_, List.getElem?_eq_getElem hi1, r⟩, _, List.getElem?_eq_getElem hi2, r2⟩) (fun i S3 S4 x y e => fun ⟨⟨t, r, z⟩, t', r', z'⟩ => ⟨⟨t, r, t.up e z⟩, t', r', t'.up e z'⟩)
    rw [h2.len, h4.len] at w ⊢
    exact ⟨w.go, w.stop, fun i S1 H x H' a b c d => by
      obtain ⟨S3, g3, A, u, v, e, e2, ⟨t, r, z⟩, t', r', z'⟩ := w.yld i S1 H x H' a b c d
      exact ⟨S3, g3, A, u, v, t, t', e, e2, r, z, r', z'⟩⟩

/-- a for: Iv i σ S H at the head of turn i -/
def Nx (md : Md) (S0 H0 Sb : Hp) (Iv : Nat → L2.St → Hp → Hp → Prop) (i : Nat) (σ : L2.St) (H : Hp) : Prop := ∃ S, Gr md S0 H0 S H ∧ Same Sb S ∧ Iv i σ S H
theorem s_for {ti : TI} {n : Nat} {T : Nat → Hp → V → Prop} (h : EvI md S ti σ n T) (g0 : Gr md S0 H0 S H) (Iv : Nat → L2.St → Hp → Hp → Prop) (h0 : ∀ S1 H1, Gr md S H S1 H1 → Iv 0 σ S1 H1)
    (hs : ∀ Sb i σ1 S1 H1 x S2 H2, i < n → Same S Sb → Gr md S0 H0 S2 H2 → Same Sb S2 → Iv i σ1 S1 H1 → Gr md S1 H1 S2 H2 → T i S2 x → g x σ1 H2 fun σ3 H3 => tu { D' with nx := Nx md S0 H0 Sb Iv (i + 1), ct := Nx md S0 H0 Sb Iv (i + 1), bk := D'.nx } σ3 H3)
    (hd : ∀ σ1 S1 H1, Gr md S0 H0 S1 H1 → Same S S1 → Iv n σ1 S1 H1 → D'.nx σ1 H1) : tFor ti g tu D' σ H :=
  h S H _ (Same.refl S) g0.k fun J Sb Hb gb w => by
    refine ⟨fun i m σ1 H1 => m = n - i ∧ i ≤ n ∧ ∃ S1, Gr md S0 H0 S1 H1 ∧ Same Sb S1 ∧ Iv i σ1 S1 H1, ⟨n, by omega, Nat.zero_le _, Sb, g0.trans gb, Same.refl _, h0 _ _ gb⟩, ?_⟩
    rintro i m σ1 H1 ⟨rfl, hi, S1, g1, e1, iv⟩
    by_cases hlt : i < n
    · refine .inr ⟨w.go i S1 H1 e1 g1.k hlt, fun σ3 H3 => ∃ S3, Gr md S0 H0 S3 H3 ∧ Same Sb S3 ∧ Iv (i + 1) σ3 S3 H3, fun σ' H' q => ⟨n - (i + 1), by omega, rfl, hlt, q⟩, fun x H2 y => ?_⟩
      obtain ⟨S2, g2, ht⟩ := w.yld i S1 H1 x H2 e1 g1.k hlt y
      exact hs Sb i σ1 S1 H1 x S2 H2 hlt gb.st (g1.trans g2) (e1.trans g2.st) iv g2 ht
    · have e : i = n := by omega
      subst e
      exact .inl ⟨w.stop S1 H1 e1 g1.k, hd σ1 S1 H1 g1 (gb.st.trans e1) iv⟩
end KD
end
section
set_option linter.all false
set_option maxRecDepth 100000
set_option maxHeartbeats 4000000
namespace KD
open PySem PySem.Spec PyProof.Rows L2 KR
variable {md : Md} {S H S' H' S1 H1 S0 H0 : Hp} {K : PySem.W.Frag} {σ : L2.St} {ta tb te tx : TE} {t u : TT} {P P1 P2 P3 : Ty}
variable {D' : Ends} {tu tw tz : TS} {g : TG}

/-! ### targets -/
def EvG (S : Hp) (g : TG) (x : V) (σ σ' : L2.St) : Prop := ∀ H Q, Same S H → Q σ' H → g x σ H Q
theorem eg_name {i : Nat} {x : V} : EvG S (gName i) x σ (σ.set i (some x)) := fun H Q _ q => q
theorem eg_pair {i j : Nat} {a : Addr} {u v : V} (h : S a = some (.tup [u, v])) : EvG S (gTup K 2 (gCons (gName i) (gCons (gName j) gNil))) (.ref a) σ ((σ.set i (some u)).set j (some v)) :=
  fun H Q e q => ⟨a, _, rfl, SqT.of (e _ _ h), rfl, _, _, rfl, _, _, rfl, rfl, q⟩

/-! ### comprehensions -/
theorem range_filter_succ (f : Nat → Bool) (i : Nat) : (List.range (i + 1)).filter f = (List.range i).filter f ++ (if f i = true then [i] else []) := by
  rw [List.range_succ, List.filter_append, List.filter_cons]
  rfl
/-- a new list, not yet among what stays -/
def EvN (md : Md) (S : Hp) (te : TE) (σ : L2.St) (ts : List Ty) : Prop := ∀ S1 H R, Same S S1 → Ok md S1 H → (∀ p vs S' H', Gr md S1 H S' H' → H p = none → S' p = none → H' p = some (.lst vs) → All S' vs ts → R (.ref p) H') → te σ H R
theorem nf_back {md : Md} {S H S' H' : Hp} {p : Addr} (g : Gr md S H S' H') (h : H' p = none) : H p = none := by
  cases e : H p with
  | none => rfl
  | some o => exact absurd h (g.on p (by rw [e]; exact fun z => by cases z))
theorem EvN.ev {ts : List Ty} (h : EvN md S te σ ts) : Ev md S te σ (LstT ts) := fun S1 H R a o k => h S1 H R a o fun p vs S' H' g hp sp hl ha =>
  k _ _ _ (g.frz hp sp hl) ⟨p, vs, rfl, upd_same, ha.up (same_new sp)⟩
theorem EvN.go {ts : List Ty} {R : VK} (h : EvN md S te σ ts) (g : Gr md S0 H0 S H) (k : ∀ p vs S' H', Gr md S0 H0 S' H' → Gr md S H S' H' → H0 p = none → H p = none → S' p = none → H' p = some (.lst vs) → All S' vs ts → R (.ref p) H') : te σ H R :=
  h S H R (Same.refl S) g.k fun p vs S' H' g' hp sp hl ha => k p vs S' H' (g.trans g') g' (nf_back g hp) hp sp hl ha
theorem en_lst {ta : TA} {ts : List Ty} (h : EvA md S ta σ ts) (hl : ts.length ≤ 100000 := by first | decide | simp) : EvN md S (tLst ta) σ ts := fun S1 H R a b k =>
  h S1 H _ a b fun vs S2 H2 g2 hvs => ⟨Nat.le_trans (by rw [hvs.len]; exact hl) (by decide), fun p hp => k p vs _ _ (g2.trans (g2.k.newL (o := .lst vs) hp)) (nf_back g2 hp) (g2.k.le.free hp) upd_same hvs⟩
/-- [x] * n -/
theorem en_rep {n : Nat} (h1 : Ev md S ta σ (LstT [P])) (h2 : Ev md S tb σ (D (.int (n : Nat)))) (hl : n ≤ 100000) : EvN md S (tOp rRep ta tb) σ (List.replicate n P) := fun S1 H R e o k =>
  h1 S1 H _ e o fun x S2 H2 g2 hx => h2 S2 H2 _ (e.trans g2.st) g2.k fun y S3 H3 g3 hy => by
    obtain ⟨a, vs, rfl, e1, a1⟩ := hx
    rw [D_int hy]
    obtain ⟨v, rfl, hv⟩ := a1.one
    refine ⟨a, n, [v], rfl, rfl, g3.k.le _ _ (g3.st _ _ e1), by omega, by omega, Nat.le_trans (by simpa using hl) (by decide : 100000 ≤ sizeLine), fun p hp => ?_⟩
    have q : (List.replicate (n : Int).toNat [v]).flatten = List.replicate n v := by
      rw [Int.toNat_natCast]
      clear hl h2 hy k
      induction n with
      | zero => rfl
      | succ n ih => rw [List.replicate_succ, List.flatten_cons, ih]; rfl
    rw [q]
    exact k p _ _ _ ((g2.trans g3).trans (g3.k.newL (o := .lst (List.replicate n v)) hp)) (nf_back (g2.trans g3) hp) (g3.k.le.free hp) upd_same (All.rep (P.up g3.st hv) n)
theorem q_asgN {i : Nat} {ts : List Ty} (h : EvN md S te σ ts) (g : Gr md S0 H0 S H) (k : ∀ p vs S' H', Gr md S0 H0 S' H' → Gr md S H S' H' → H0 p = none → S' p = none → H' p = some (.lst vs) → All S' vs ts → tz D' (σ.set i (some (.ref p))) H') : tSeq (tAsg te (gName i)) tz D' σ H :=
  h.go g fun p vs S' H' g1 g2 h0 _ sp hl ha => k p vs S' H' g1 g2 h0 sp hl ha
theorem en_lc {ti : TI} {n : Nat} {T : Nat → Hp → V → Prop} {vs : List Nat} (f : Nat → Bool) (E : Nat → Ty) (h : EvI md S ti σ n T) (hn : n ≤ 100000)
    (hb : ∀ i S1 x, Same S S1 → i < n → T i S1 x → ∃ σ2, EvG S1 g x (wipe σ vs) σ2 ∧ wipe σ2 vs = wipe σ vs ∧ EvT md S1 t σ2 (f i) ∧ (f i = true → Ev md S1 te σ2 (E i))) :
    EvN md S (tLc ti g t te vs) σ (((List.range n).filter f).map E) := fun S1 H1 R e1 o1 k =>
  h S1 H1 _ e1 o1 fun J S2 H2 g2 w => fun Dl hD => by
    have n0 := g2.k.newL (o := .lst []) hD
    refine ⟨fun i m H => m = n - i ∧ i ≤ n ∧ ∃ S3 acc, Gr md S2 H2 S3 H ∧ S3 Dl = none ∧ H Dl = some (.lst acc) ∧ All S3 acc (((List.range i).filter f).map E), ⟨n, by omega, Nat.zero_le _, S2, [], n0, g2.k.le.free hD, upd_same, .nil⟩, ?_⟩
    rintro i m H ⟨rfl, hi, S3, acc, g3, s3, h3, a3⟩
    have nm : ¬ md.M Dl := g3.nm hD
    by_cases hlt : i < n
    · refine .inr ⟨w.go i S3 H g3.st g3.k hlt, fun H => ∃ S3 acc, Gr md S2 H2 S3 H ∧ S3 Dl = none ∧ H Dl = some (.lst acc) ∧ All S3 acc (((List.range (i + 1)).filter f).map E), fun H' q => ⟨n - (i + 1), by omega, rfl, hlt, q⟩, fun x H4 y => ?_⟩
      obtain ⟨S4, g4, ht⟩ := w.yld i S3 H x H4 g3.st g3.k hlt y
      obtain ⟨h4, s4⟩ := g4.keep s3 h3 nm
      have a4 := a3.up g4.st
      obtain ⟨σ2, eg, wp, et, ee⟩ := hb i S4 x (((e1.trans g2.st).trans g3.st).trans g4.st) hlt ht
      refine eg H4 _ g4.k.le ⟨wp, et S4 H4 _ (Same.refl _) g4.k fun S5 H5 g5 => ?_⟩
      obtain ⟨h5, s5⟩ := g5.keep s4 h4 nm
      have a5 := a4.up g5.st
      rw [range_filter_succ] at *
      cases hf : f i with
      | true =>
        refine iteT (ee hf S5 H5 _ g5.st g5.k fun v S6 H6 g6 hv => ?_)
        obtain ⟨h6, s6⟩ := g6.keep s5 h5 nm
        refine ⟨acc, h6, Nat.lt_of_le_of_lt (m := i) ?_ (Nat.lt_of_lt_of_le (Nat.lt_of_lt_of_le hlt hn) (by decide)), S6, acc ++ [v], (((g3.trans g4).trans g5).trans g6).mut hD s6, s6, upd_same, ?_⟩
        · rw [a3.len, List.length_map]
          have := List.length_filter_le f (List.range i)
          rw [List.length_range] at this
          exact this
        · rw [if_pos rfl, List.map_append]
          exact (a5.up g6.st).app (.cons hv .nil)
      | false =>
        refine iteF ⟨S5, acc, (g3.trans g4).trans g5, s5, h5, ?_⟩
        rw [if_neg Bool.false_ne_true, List.append_nil]
        exact a5
    · have e : i = n := by omega
      subst e
      refine .inl ⟨w.stop S3 H g3.st g3.k, ?_⟩
      exact k Dl acc S3 H (g2.trans g3) (nf_back g2 hD) s3 h3 a3
theorem ev_lc {ti : TI} {n : Nat} {T : Nat → Hp → V → Prop} {vs : List Nat} (f : Nat → Bool) (E : Nat → Ty) (h : EvI md S ti σ n T) (hn : n ≤ 100000)
    (hb : ∀ i S1 x, Same S S1 → i < n → T i S1 x → ∃ σ2, EvG S1 g x (wipe σ vs) σ2 ∧ wipe σ2 vs = wipe σ vs ∧ EvT md S1 t σ2 (f i) ∧ (f i = true → Ev md S1 te σ2 (E i))) :
    Ev md S (tLc ti g t te vs) σ (LstT (((List.range n).filter f).map E)) := (en_lc f E h hn hb).ev
theorem at_or {α β : Type} (xs : List α) (f : α → β) (d : β) (i : Nat) {a : α} (h : xs[i]? = some a) : ((xs[i]?).map f).getD d = f a := by
  rw [h]
  rfl
theorem range_fm {α β : Type} (xs : List α) (f : α → Bool) (E : α → β) (d : β) : ((List.range xs.length).filter fun i => ((xs[i]?).map f).getD false).map (fun i => ((xs[i]?).map E).getD d) = (xs.filter f).map E := by
  induction xs with
  | nil => rfl
  | cons x xs ih =>
    have l0 : (x :: xs).length = xs.length + 1 := rfl
    rw [l0, List.range_succ_eq_map, List.filter_cons, List.filter_cons, List.filter_map]
    have e : ((fun i => (((x :: xs)[i]?).map f).getD false) ∘ Nat.succ) = fun i => ((xs[i]?).map f).getD false := rfl
    rw [e]
    show List.map _ (if f x = true then _ else _) = _
    cases f x with
    | true =>
      rw [if_pos rfl, if_pos rfl, List.map_cons, List.map_cons, List.map_map, ← ih]
      rfl
    | false =>
      rw [if_neg Bool.false_ne_true, if_neg Bool.false_ne_true, List.map_map, ← ih]
      rfl
/-- over what a list of things stands for -/
theorem ev_lcX {α : Type} {ti : TI} {T : Nat → Hp → V → Prop} {vs : List Nat} (xs : List α) (f : α → Bool) (E : α → Ty) (h : EvI md S ti σ xs.length T) (hn : xs.length ≤ 100000)
    (hb : ∀ i a S1 x, Same S S1 → xs[i]? = some a → T i S1 x → ∃ σ2, EvG S1 g x (wipe σ vs) σ2 ∧ wipe σ2 vs = wipe σ vs ∧ EvT md S1 t σ2 (f a) ∧ (f a = true → Ev md S1 te σ2 (E a))) :
    Ev md S (tLc ti g t te vs) σ (LstT ((xs.filter f).map E)) := by
  rw [← range_fm xs f E (IsV .non)]
  refine ev_lc _ _ h hn fun i S1 x e hi ht => ?_
  have ha := List.getElem?_eq_getElem hi
  rw [at_or xs f false i ha, at_or xs E _ i ha]
  exact hb i _ S1 x e ha ht
theorem ev_lcD {α : Type} {ti : TI} {T : Nat → Hp → V → Prop} {vs : List Nat} (xs : List α) (f : α → Bool) (E : α → PyData) (h : EvI md S ti σ xs.length T) (hn : xs.length ≤ 100000)
    (hb : ∀ i a S1 x, Same S S1 → xs[i]? = some a → T i S1 x → ∃ σ2, EvG S1 g x (wipe σ vs) σ2 ∧ wipe σ2 vs = wipe σ vs ∧ EvT md S1 t σ2 (f a) ∧ (f a = true → Ev md S1 te σ2 (D (E a)))) :
    Ev md S (tLc ti g t te vs) σ (D (.list ((xs.filter f).map E))) := Ev.lstD (by
  rw [List.map_map]
  exact ev_lcX xs f (fun a => D (E a)) h hn hb)
theorem et_yes : EvT md S tYes σ true := fun S1 H R a o k => k S1 H (Gr.refl o)
theorem filter_yes {α : Type} (xs : List α) : xs.filter (fun _ => true) = xs := List.filter_eq_self.2 fun _ _ => rfl
/-- without an if -/
theorem ev_lcY {α : Type} {ti : TI} {T : Nat → Hp → V → Prop} {vs : List Nat} (xs : List α) (E : α → Ty) (h : EvI md S ti σ xs.length T) (hn : xs.length ≤ 100000)
    (hb : ∀ i a S1 x, Same S S1 → xs[i]? = some a → T i S1 x → ∃ σ2, EvG S1 g x (wipe σ vs) σ2 ∧ wipe σ2 vs = wipe σ vs ∧ Ev md S1 te σ2 (E a)) :
    Ev md S (tLc ti g tYes te vs) σ (LstT (xs.map E)) := by
  have q := ev_lcX (md := md) (S := S) (σ := σ) (t := tYes) (te := te) (g := g) (vs := vs) xs (fun _ => true) E h hn fun i a S1 x e ha ht => by
    obtain ⟨σ2, a1, a2, a3⟩ := hb i a S1 x e ha ht
    exact ⟨σ2, a1, a2, et_yes, fun _ => a3⟩
  rw [filter_yes] at q
  exact q
theorem ev_lcYD {α : Type} {ti : TI} {T : Nat → Hp → V → Prop} {vs : List Nat} (xs : List α) (E : α → PyData) (h : EvI md S ti σ xs.length T) (hn : xs.length ≤ 100000)
    (hb : ∀ i a S1 x, Same S S1 → xs[i]? = some a → T i S1 x → ∃ σ2, EvG S1 g x (wipe σ vs) σ2 ∧ wipe σ2 vs = wipe σ vs ∧ Ev md S1 te σ2 (D (E a))) :
    Ev md S (tLc ti g tYes te vs) σ (D (.list (xs.map E))) := Ev.lstD (by
  rw [List.map_map]
  exact ev_lcY xs (fun a => D (E a)) h hn hb)

/-! ### slices -/
def EvO (md : Md) (S : Hp) (to : TO) (σ : L2.St) (x : Option Int) : Prop := ∀ S1 H R, Same S S1 → Ok md S1 H → (∀ S' H', Gr md S1 H S' H' → R x H') → to σ H R
theorem eo_none : EvO md S tNoPart σ none := fun S1 H R a o k => k S1 H (Gr.refl o)
theorem eo_some {i : Int} (h : Ev md S te σ (D (.int i))) : EvO md S (tPart te) σ (some i) := fun S1 H R a o k => h S1 H _ a o fun v S2 H2 g hv => ⟨i, D_int hv, k S2 H2 g⟩
def cutT (xs : List Ty) (lo hi : Option Int) : List Ty := (xs.drop (HT.sIx xs.length 0 lo)).take (HT.sIx xs.length xs.length hi - HT.sIx xs.length 0 lo)
theorem All.drop : ∀ {vs : List V} {ts : List Ty} (n : Nat), All S vs ts → All S (vs.drop n) (ts.drop n)
  | _, _, 0, h => h
  | _, _, _ + 1, .nil => .nil
  | _, _, n + 1, .cons _ h => All.drop n h
theorem All.take : ∀ {vs : List V} {ts : List Ty} (n : Nat), All S vs ts → All S (vs.take n) (ts.take n)
  | _, _, 0, h => by rw [List.take_zero, List.take_zero]; exact .nil
  | _, _, _ + 1, .nil => .nil
  | _, _, n + 1, .cons a h => .cons a (All.take n h)
theorem All.cut {vs : List V} {ts : List Ty} (h : All S vs ts) (lo hi : Option Int) : All S (cutV vs lo hi) (cutT ts lo hi) := by
  unfold cutV cutT
  rw [h.len]
  exact (h.drop _).take _
theorem ev_slL {ts : List Ty} {lo hi : Option Int} {tl th : TO} (h : Ev md S te σ (LstT ts)) (h1 : EvO md S tl σ lo) (h2 : EvO md S th σ hi) : Ev md S (tSl (rSlL K) te tl th) σ (LstT (cutT ts lo hi)) := fun S1 H R a o k =>
  h S1 H _ a o fun v S2 H2 g2 hv => h1 S2 H2 _ (a.trans g2.st) g2.k fun S3 H3 g3 => h2 S3 H3 _ ((a.trans g2.st).trans g3.st) g3.k fun S4 H4 g4 => by
    obtain ⟨p, vs, rfl, e1, e2⟩ := hv
    have e := g3.st.trans g4.st
    exact ⟨p, vs, rfl, SqL.of (g4.k.le _ _ (e _ _ e1)), fun q hq => k _ _ _ (((g2.trans g3).trans g4).trans (g4.k.new hq)) ⟨q, _, rfl, upd_same, ((e2.up e).cut lo hi).up (g4.k.new (o := .lst (cutV vs lo hi)) hq).st⟩⟩
/-- of a tuple, whole or not -/
theorem ev_slA {ts : List Ty} {lo hi : Option Int} {tl th : TO} (h : Ev md S te σ (TupT ts)) (h1 : EvO md S tl σ lo) (h2 : EvO md S th σ hi) : Ev md S (tSl (rSlA K) te tl th) σ (TupT (cutT ts lo hi)) := fun S1 H R a o k =>
  h S1 H _ a o fun v S2 H2 g2 hv => h1 S2 H2 _ (a.trans g2.st) g2.k fun S3 H3 g3 => h2 S3 H3 _ ((a.trans g2.st).trans g3.st) g3.k fun S4 H4 g4 => by
    obtain ⟨p, vs, rfl, e1, e2⟩ := hv
    have e := g3.st.trans g4.st
    refine ⟨p, vs, rfl, SqT.of (g4.k.le _ _ (e _ _ e1)), fun q => k _ _ _ ((g2.trans g3).trans g4) ⟨p, vs, rfl, e _ _ e1, ?_⟩, fun _ q hq => k _ _ _ (((g2.trans g3).trans g4).trans (g4.k.new hq)) ⟨q, _, rfl, upd_same, ((e2.up e).cut lo hi).up (g4.k.new (o := .tup (cutV vs lo hi)) hq).st⟩⟩
    have c := (e2.up e).cut lo hi
    have q' : cutV vs lo hi = vs := by
      unfold cutV
      rw [q.1, q.2, List.drop_zero, Nat.sub_zero, List.take_length]
    rw [q'] at c
    exact c

/-! ### attributes of an instance, methods, making one -/
/-- an instance of the class at C whose attributes are so -/
def InsT (C : Addr) (fs : List (Str × Ty)) : Ty := ⟨fun S v => ∃ a dx vs, v = .ref a ∧ S a = some (.ins C dx ((fs.map (·.1)).zip vs)) ∧ All S vs (fs.map (·.2)), fun {S S' v} e h => by
  obtain ⟨a, dx, vs, h1, h2, h3⟩ := h
  exact ⟨a, dx, vs, h1, e _ _ h2, h3.up e⟩⟩
theorem look_zip : ∀ {fs : List (Str × Ty)} {vs : List V} {f : Str}, All S vs (fs.map (·.2)) → fs.lookup f = some P → ∃ v, ((fs.map (·.1)).zip vs).lookup f = some v ∧ P.ok S v
  | [], _, _, _, h => by cases h
  | (k, t) :: fs, _, f, .cons a b, h => by
    rw [List.lookup_cons] at h
    show ∃ v, List.lookup f ((k, _) :: (fs.map (·.1)).zip _) = some v ∧ _
    rw [List.lookup_cons]
    cases hk : f == k with
    | true =>
      rw [hk] at h
      cases h
      exact ⟨_, rfl, a⟩
    | false =>
      rw [hk] at h
      exact look_zip b h
theorem look_none : ∀ {fs : List (Str × Ty)} {vs : List V} {f : Str}, fs.lookup f = none → ((fs.map (·.1)).zip vs).lookup f = none
  | [], _, _, _ => rfl
  | (k, t) :: fs, [], _, _ => rfl
  | (k, t) :: fs, v :: vs, f, h => by
    rw [List.lookup_cons] at h
    show List.lookup f ((k, v) :: (fs.map (·.1)).zip vs) = none
    rw [List.lookup_cons]
    cases hk : f == k with
    | true =>
      rw [hk] at h
      cases h
    | false =>
      rw [hk] at h
      exact look_none h
theorem ev_fld {C : Addr} {fs : List (Str × Ty)} {f : Str} (h : Ev md S te σ (InsT C fs)) (c : Cls K C) (n : NoAttr K C f) (l : fs.lookup f = some P) : Ev md S (tFld K te f) σ P := fun S1 H R a o k =>
  h S1 H _ a o fun v S2 H2 g2 hv => by
    obtain ⟨p, dx, vs, rfl, h1, h2⟩ := hv
    obtain ⟨w, e, hw⟩ := look_zip h2 l
    exact ⟨p, C, dx, _, w, rfl, g2.k.le _ _ h1, c, n, e, k w S2 H2 g2 hw⟩
theorem ev_meth {α : Type} {dom : α → Prop} {f : α → List Ty} {gg : α → Ty} {C : Addr} {m : Str} {fs : List (Str × Ty)} {tr : TA} {ts : List Ty} {E : XK} (a : α) (ha : dom a) (h : Ev md S te σ (InsT C fs)) (n : fs.lookup m = none) (hr : EvA md S tr σ ts) (hf : f a = InsT C fs :: ts) :
    Ev md S (tMeth C m (spP dom f gg) [] E te tr) σ (gg a) := fun S1 H R e o k =>
  h S1 H _ e o fun v S2 H2 g2 hv => by
    obtain ⟨p, dx, vs, rfl, h1, h2⟩ := id hv
    refine ⟨p, dx, _, rfl, g2.k.le _ _ h1, look_none n, hr S2 H2 _ (e.trans g2.st) g2.k fun ws S3 H3 g3 hws => ⟨S3, a, ha, g3.k.le, ?_, fun v S4 H4 g4 hv => k v S4 H4 ((g2.trans g3).trans (g4.lift g3.k)) hv⟩⟩
    rw [List.append_nil, hf]
    exact .cons (Ty.up _ g3.st hv) hws
end KD
end
section
set_option linter.all false
set_option maxRecDepth 100000
set_option maxHeartbeats 4000000
namespace KD
open PySem PySem.Spec PyProof.Rows L2 KR
variable {md : Md} {S H S' H' S1 H1 S0 H0 : Hp} {K : PySem.W.Frag} {σ : L2.St} {ta tb te tx : TE} {t u : TT} {P P1 P2 P3 : Ty}
variable {D' : Ends} {tu tw tz : TS} {g : TG} {α : Type}
theorem u65 {k : Nat} {A : Around} (r : Room k A) : A.units + 65 < cLine := by have := r.un; omega

/-! ### walks over what stands for things -/
def EvX (md : Md) (S : Hp) (ti : TI) (σ : L2.St) (xs : List α) (T : α → Hp → V → Prop) : Prop := EvI md S ti σ xs.length fun i S x => ∃ a, xs[i]? = some a ∧ T a S x
theorem EvI.conv {ti : TI} {n : Nat} {T T' : Nat → Hp → V → Prop} (h : EvI md S ti σ n T) (c : ∀ i S x, i < n → T i S x → T' i S x) : EvI md S ti σ n T' := fun S1 H R a o k => h S1 H R a o fun J S2 H2 g w =>
  k J S2 H2 g ⟨w.go, w.stop, fun i S3 H3 x H4 a b d e => by
    obtain ⟨S4, g4, ht⟩ := w.yld i S3 H3 x H4 a b d e
    exact ⟨S4, g4, c i S4 x d ht⟩⟩
theorem EvX.up {ti : TI} {xs : List α} {T : α → Hp → V → Prop} (h : EvX md S ti σ xs T) (e : Same S S') : EvX md S' ti σ xs T := EvI.up h e
theorem ex_list {xs : List α} {enc : α → Ty} (h : Ev md S te σ (LstT (xs.map enc))) : EvX md S (iList K te) σ xs (fun a S x => (enc a).ok S x) := by
  have q := ei_list (K := K) h
  rw [List.length_map] at q
  refine q.conv fun i S x hi ⟨t, e, ht⟩ => ?_
  rw [List.getElem?_map, List.getElem?_eq_getElem hi] at e
  cases e
  exact ⟨_, List.getElem?_eq_getElem hi, ht⟩
theorem ex_listD {xs : List α} {enc : α → PyData} (h : Ev md S te σ (D (.list (xs.map enc)))) : EvX md S (iList K te) σ xs (fun a S x => (D (enc a)).ok S x) := by
  have q := h.Dlst
  rw [List.map_map] at q
  exact ex_list q
theorem ex_tup {xs : List α} {enc : α → Ty} (h : Ev md S te σ (TupT (xs.map enc))) : EvX md S (iTup K te) σ xs (fun a S x => (enc a).ok S x) := by
  have q := ei_tup (K := K) h
  rw [List.length_map] at q
  refine q.conv fun i S x hi ⟨t, e, ht⟩ => ?_
  rw [List.getElem?_map, List.getElem?_eq_getElem hi] at e
  cases e
  exact ⟨_, List.getElem?_eq_getElem hi, ht⟩
theorem ex_tupD {xs : List α} {enc : α → PyData} (h : Ev md S te σ (D (.tuple (xs.map enc)))) : EvX md S (iTup K te) σ xs (fun a S x => (D (enc a)).ok S x) := by
  have q := h.Dtup
  rw [List.map_map] at q
  exact ex_tup q
theorem ex_rng1 {n : Nat} (h : Ev md S te σ (D (.int (n : Nat)))) (hn : n ≤ 100000) : EvX md S (iRng1 (tCons te tNil)) σ (List.range n) (fun i _ x => x = .int (i : Nat)) := by
  have q := ei_rng1 h hn
  unfold EvX
  rw [List.length_range]
  exact q.conv fun i S x hi e => ⟨i, by simp [hi], e⟩
theorem ex_rng2 {l n : Nat} (h : Ev md S ta σ (D (.int (l : Nat)))) (h2 : Ev md S tb σ (D (.int (n : Nat)))) (hn : n ≤ 100000) (hl : l ≤ 100000) : EvX md S (iRng2 (tCons ta (tCons tb tNil))) σ (List.range' l (n - l)) (fun i _ x => x = .int (i : Nat)) := by
  have q := ei_rng2 h h2 hn hl
  unfold EvX
  rw [List.length_range']
  exact q.conv fun i S x hi e => ⟨l + i, by simp [hi], e⟩
/-- the pair of a place and what stands there -/
def EnmX {β : Type} (xs : List β) (enc : β → Ty) (i : Nat) (S : Hp) (x : V) : Prop := ∃ p v b, x = .ref p ∧ S p = some (.tup [.int (i : Nat), v]) ∧ xs[i]? = some b ∧ (enc b).ok S v
theorem ex_enumT {xs : List α} {enc : α → Ty} (h : Ev md S te σ (TupT (xs.map enc))) : EvX md S (iEnumT K (tCons te tNil)) σ (List.range xs.length) (EnmX xs enc) := by
  have q := ei_enumT (K := K) h
  unfold EvX
  rw [List.length_range]
  rw [List.length_map] at q
  refine q.conv fun i S x hi ⟨p, v, t, e1, e2, e3, e4⟩ => ⟨i, by simp [hi], p, v, xs[i], e1, e2, List.getElem?_eq_getElem hi, ?_⟩
  rw [List.getElem?_map, List.getElem?_eq_getElem hi] at e3
  cases e3
  exact e4
theorem ex_enumTD {xs : List α} {enc : α → PyData} (h : Ev md S te σ (D (.tuple (xs.map enc)))) : EvX md S (iEnumT K (tCons te tNil)) σ (List.range xs.length) (EnmX xs fun a => D (enc a)) := by
  have q := h.Dtup
  rw [List.map_map] at q
  exact ex_enumT q
/-- enumerate of a list -/
theorem ei_enumL {ts : List Ty} (h : Ev md S te σ (LstT ts)) : EvI md S (iEnum K (tCons te tNil)) σ ts.length (Enm ts) := fun S1 H R a o k =>
  ea1 h S1 H _ a o fun vs S2 H2 g2 hv => by
    obtain ⟨v, rfl, hw⟩ := hv.one
    obtain ⟨p, xs, rfl, h1, h2⟩ := hw
    refine ⟨p, xs, rfl, SqL.of (g2.k.le _ _ h1), k _ S2 H2 g2 ⟨fun i S3 H3 e3 o3 hi => ?_, fun S3 H3 e3 o3 => ?_, fun i S3 H3 x H' e3 o3 hi y => ?_⟩⟩
    · have hi' : i < xs.length := by rw [h2.len]; exact hi
      exact ⟨xs, xs[i], SqL.of (o3.le _ _ (e3 _ _ h1)), List.getElem?_eq_getElem hi'⟩
    · exact ⟨xs, SqL.of (o3.le _ _ (e3 _ _ h1)), by rw [h2.len]; exact Nat.le_refl _⟩
    · obtain ⟨A, w, rfl, hA, rfl, y⟩ := y
      obtain ⟨w', e, hw⟩ := (h2.up e3).at (List.getElem?_eq_getElem hi)
      have q := y xs (SqL.of (o3.le _ _ (e3 _ _ h1)))
      rw [e] at q
      cases q
      have n := o3.new (o := .tup [.int (i : Nat), w]) hA
      exact ⟨_, n, A, w, _, rfl, upd_same, List.getElem?_eq_getElem hi, Ty.up _ n.st hw⟩
theorem ex_enumL {xs : List α} {enc : α → Ty} (h : Ev md S te σ (LstT (xs.map enc))) : EvX md S (iEnum K (tCons te tNil)) σ (List.range xs.length) (EnmX xs enc) := by
  have q := ei_enumL (K := K) h
  unfold EvX
  rw [List.length_range]
  rw [List.length_map] at q
  refine q.conv fun i S x hi ⟨p, v, t, e1, e2, e3, e4⟩ => ⟨i, by simp [hi], p, v, xs[i], e1, e2, List.getElem?_eq_getElem hi, ?_⟩
  rw [List.getElem?_map, List.getElem?_eq_getElem hi] at e3
  cases e3
  exact e4
theorem ex_enumLD {xs : List α} {enc : α → PyData} (h : Ev md S te σ (D (.list (xs.map enc)))) : EvX md S (iEnum K (tCons te tNil)) σ (List.range xs.length) (EnmX xs fun a => D (enc a)) := by
  have q := h.Dlst
  rw [List.map_map] at q
  exact ex_enumL q
/-- comprehensions over such -/
theorem xl_D {ti : TI} {T : α → Hp → V → Prop} {vs : List Nat} {xs : List α} (f : α → Bool) (E : α → PyData) (h : EvX md S ti σ xs T) (hn : xs.length ≤ 100000)
    (hb : ∀ a S1 x, Same S S1 → a ∈ xs → T a S1 x → ∃ σ2, EvG S1 g x (wipe σ vs) σ2 ∧ wipe σ2 vs = wipe σ vs ∧ EvT md S1 t σ2 (f a) ∧ (f a = true → Ev md S1 te σ2 (D (E a)))) :
    Ev md S (tLc ti g t te vs) σ (D (.list ((xs.filter f).map E))) := ev_lcD xs f E h hn fun i a S1 x e ha ⟨b, hb', ht⟩ => by
  rw [ha] at hb'
  cases hb'
  exact hb a S1 x e (List.mem_of_getElem? ha) ht
theorem xl_YD {ti : TI} {T : α → Hp → V → Prop} {vs : List Nat} {xs : List α} (E : α → PyData) (h : EvX md S ti σ xs T) (hn : xs.length ≤ 100000)
    (hb : ∀ a S1 x, Same S S1 → a ∈ xs → T a S1 x → ∃ σ2, EvG S1 g x (wipe σ vs) σ2 ∧ wipe σ2 vs = wipe σ vs ∧ Ev md S1 te σ2 (D (E a))) :
    Ev md S (tLc ti g tYes te vs) σ (D (.list (xs.map E))) := ev_lcYD xs E h hn fun i a S1 x e ha ⟨b, hb', ht⟩ => by
  rw [ha] at hb'
  cases hb'
  exact hb a S1 x e (List.mem_of_getElem? ha) ht
theorem xl_Y {ti : TI} {T : α → Hp → V → Prop} {vs : List Nat} {xs : List α} (E : α → Ty) (h : EvX md S ti σ xs T) (hn : xs.length ≤ 100000)
    (hb : ∀ a S1 x, Same S S1 → a ∈ xs → T a S1 x → ∃ σ2, EvG S1 g x (wipe σ vs) σ2 ∧ wipe σ2 vs = wipe σ vs ∧ Ev md S1 te σ2 (E a)) :
    Ev md S (tLc ti g tYes te vs) σ (LstT (xs.map E)) := ev_lcY xs E h hn fun i a S1 x e ha ⟨b, hb', ht⟩ => by
  rw [ha] at hb'
  cases hb'
  exact hb a S1 x e (List.mem_of_getElem? ha) ht
theorem xn_Y {ti : TI} {T : α → Hp → V → Prop} {vs : List Nat} {xs : List α} (E : α → Ty) (h : EvX md S ti σ xs T) (hn : xs.length ≤ 100000)
    (hb : ∀ a S1 x, Same S S1 → a ∈ xs → T a S1 x → ∃ σ2, EvG S1 g x (wipe σ vs) σ2 ∧ wipe σ2 vs = wipe σ vs ∧ Ev md S1 te σ2 (E a)) :
    EvN md S (tLc ti g tYes te vs) σ (xs.map E) := by
  have e := range_fm xs (fun _ => true) E (IsV .non)
  rw [filter_yes] at e
  rw [← e]
  refine en_lc _ _ h hn fun i S1 x e hi ⟨b, hb', ht⟩ => ?_
  have ha := List.getElem?_eq_getElem hi
  rw [at_or xs (fun _ => true) false i ha, at_or xs E _ i ha]
  rw [ha] at hb'
  cases hb'
  obtain ⟨σ2, a1, a2, a3⟩ := hb _ S1 x e (List.getElem_mem hi) ht
  exact ⟨σ2, a1, a2, et_yes, fun _ => a3⟩
/-- a for over such: Iv i at the head of turn i -/
theorem x_for {ti : TI} {T : α → Hp → V → Prop} {xs : List α} (h : EvX md S ti σ xs T) (g0 : Gr md S0 H0 S H) (Iv : Nat → L2.St → Hp → Hp → Prop) (h0 : ∀ S1 H1, Gr md S H S1 H1 → Iv 0 σ S1 H1)
    (hs : ∀ Sb i a σ1 S1 H1 x S2 H2, xs[i]? = some a → Same S Sb → Gr md S0 H0 S2 H2 → Same Sb S2 → Iv i σ1 S1 H1 → Gr md S1 H1 S2 H2 → T a S2 x → g x σ1 H2 fun σ3 H3 => tu { D' with nx := Nx md S0 H0 Sb Iv (i + 1), ct := Nx md S0 H0 Sb Iv (i + 1), bk := D'.nx } σ3 H3)
    (hd : ∀ σ1 S1 H1, Gr md S0 H0 S1 H1 → Same S S1 → Iv xs.length σ1 S1 H1 → D'.nx σ1 H1) : tFor ti g tu D' σ H :=
  s_for h g0 Iv h0 (fun Sb i σ1 S1 H1 x S2 H2 hi e g2 e2 iv g3 ⟨a, ha, ht⟩ => hs Sb i a σ1 S1 H1 x S2 H2 ha e g2 e2 iv g3 ht) hd
theorem q_for {ti : TI} {T : α → Hp → V → Prop} {xs : List α} (h : EvX md S ti σ xs T) (g0 : Gr md S0 H0 S H) (Iv : Nat → L2.St → Hp → Hp → Prop) (h0 : ∀ S1 H1, Gr md S H S1 H1 → Iv 0 σ S1 H1)
    (hs : ∀ Sb i a σ1 S1 H1 x S2 H2, xs[i]? = some a → Same S Sb → Gr md S0 H0 S2 H2 → Same Sb S2 → Iv i σ1 S1 H1 → Gr md S1 H1 S2 H2 → T a S2 x → g x σ1 H2 fun σ3 H3 => tu { D' with nx := Nx md S0 H0 Sb Iv (i + 1), ct := Nx md S0 H0 Sb Iv (i + 1), bk := tz D' } σ3 H3)
    (hd : ∀ σ1 S1 H1, Gr md S0 H0 S1 H1 → Same S S1 → Iv xs.length σ1 S1 H1 → tz D' σ1 H1) : tSeq (tFor ti g tu) tz D' σ H :=
  x_for (D' := { D' with nx := tz D' }) h g0 Iv h0 hs hd

/-! ### lists that change -/
/-- xs = [] and the like: a new list of our own -/
theorem q_newL {i : Nat} (g : Gr md S0 H0 S H) (k : ∀ l H', Gr md S0 H0 S H' → Gr md S H S H' → H0 l = none → H l = none → S l = none → H' l = some (.lst []) → tz D' (σ.set i (some (.ref l))) H') : tSeq (tAsg (tLst tNil) (gName i)) tz D' σ H := by
  refine ⟨Nat.zero_le _, fun p hp => ?_⟩
  have n := g.k.newL (o := .lst []) hp
  have h0 : H0 p = none := by
    cases e : H0 p with
    | none => rfl
    | some o => exact absurd hp (g.on p (by rw [e]; exact fun z => by cases z))
  exact k p _ (g.trans n) n h0 hp (g.k.le.free hp) upd_same
theorem ha_var {i : Nat} {v : V} (h : σ[i]? = some (some v) := by rfl) : ∀ (H : Hp) (R : VK), R v H → tVar i σ H R := fun H R q => ⟨v, h, q⟩

/-! ### membership, equality, places -/
theorem inV_int (xs : List Nat) (a : Nat) : inV (.int (a : Nat)) (xs.map fun n : Nat => V.int (n : Nat)) = decide (a ∈ xs) := by
  induction xs with
  | nil => rfl
  | cons x xs ih =>
    unfold inV at ih ⊢
    rw [List.map_cons, List.any_cons, ih]
    have : eqV (.int (x : Nat)) (.int (a : Nat)) = decide (x = a) := by
      show ((x : Int) == (a : Int)) = _
      by_cases h : x = a
      · simp [h]
      · have : ¬ ((x : Int) = (a : Int)) := by omega
        simp [h, this]
    rw [this]
    by_cases h : x = a
    · simp [h]
    · have h2 : ¬ a = x := fun z => h z.symm
      simp [h, h2]
theorem nats_of {xs : List V} {ns : List Nat} (h : DdAll S xs (ns.map fun n : Nat => PyData.int (n : Nat))) : xs = ns.map fun n : Nat => V.int (n : Nat) := by
  induction ns generalizing xs with
  | nil => cases h; rfl
  | cons n ns ih =>
    cases h with
    | cons q1 q2 =>
      cases q1
      rw [ih q2]
      rfl
theorem flat_ints (ns : List Nat) : (ns.map fun n : Nat => V.int (n : Nat)).all flatV = true := by
  induction ns with
  | nil => rfl
  | cons n ns ih => rw [List.map_cons, List.all_cons, ih]; rfl
theorem ev_inN {a : Nat} {ns : List Nat} (h1 : Ev md S ta σ (D (.int (a : Nat)))) (h2 : Ev md S tb σ (D (.list (ns.map fun n : Nat => PyData.int (n : Nat))))) : Ev md S (tOp (rIn K false) ta tb) σ (D (.bool (decide (a ∈ ns)))) :=
  ev_op h1 h2 fun S1 x y _ hx hy => by
    rw [D_int hx]
    have hy' : Dd S1 y _ := hy
    cases hy' with
    | @lst p xs _ e1 e2 =>
      rw [nats_of e2] at e1
      refine fun S2 H R e o k => ⟨p, _, rfl, .inl (SqL.of (o.le _ _ (e _ _ e1))), rfl, flat_ints ns, ?_⟩
      rw [if_neg Bool.false_ne_true, inV_int]
      exact k _ S2 H (Gr.refl o) (Dd.bl _)
theorem ev_notInN {a : Nat} {ns : List Nat} (h1 : Ev md S ta σ (D (.int (a : Nat)))) (h2 : Ev md S tb σ (D (.list (ns.map fun n : Nat => PyData.int (n : Nat))))) : Ev md S (tOp (rIn K true) ta tb) σ (D (.bool (!decide (a ∈ ns)))) :=
  ev_op h1 h2 fun S1 x y _ hx hy => by
    rw [D_int hx]
    have hy' : Dd S1 y _ := hy
    cases hy' with
    | @lst p xs _ e1 e2 =>
      rw [nats_of e2] at e1
      refine fun S2 H R e o k => ⟨p, _, rfl, .inl (SqL.of (o.le _ _ (e _ _ e1))), rfl, flat_ints ns, ?_⟩
      rw [if_pos rfl, inV_int]
      exact k _ S2 H (Gr.refl o) (Dd.bl _)
theorem ev_eqD {d e : PyData} (h1 : Ev md S ta σ (D d)) (h2 : Ev md S tb σ (D e)) (sd : SeqAt.shaped d = true) (se : SeqAt.shaped e = true) : Ev md S (tOp (rEqD K) ta tb) σ (D (.bool (PyData.eqv d e))) :=
  ev_op h1 h2 fun S1 x y _ hx hy S2 H R c o k => ⟨d, e, Dd.dp (c.trans o.le) d hx, Dd.dp (c.trans o.le) e hy, sd, se, k _ S2 H (Gr.refl o) (Dd.bl _)⟩
theorem ev_neD {d e : PyData} (h1 : Ev md S ta σ (D d)) (h2 : Ev md S tb σ (D e)) (sd : SeqAt.shaped d = true) (se : SeqAt.shaped e = true) : Ev md S (tOp (rNeD K) ta tb) σ (D (.bool (!PyData.eqv d e))) :=
  ev_op h1 h2 fun S1 x y _ hx hy S2 H R c o k => ⟨d, e, Dd.dp (c.trans o.le) d hx, Dd.dp (c.trans o.le) e hy, sd, se, k _ S2 H (Gr.refl o) (Dd.bl _)⟩
theorem ev_inD {d : PyData} {ds : List PyData} (h1 : Ev md S ta σ (D d)) (h2 : Ev md S tb σ (D (.list ds))) (sd : SeqAt.shaped d = true) (se : SeqAt.shaped (.list ds) = true) : Ev md S (tOp (rInD K) ta tb) σ (D (.bool (ds.any fun z => PyData.eqv z d))) :=
  ev_op h1 h2 fun S1 x y _ hx hy S2 H R c o k => ⟨d, ds, Dd.dp (c.trans o.le) d hx, Dd.dp (c.trans o.le) _ hy, sd, se, k _ S2 H (Gr.refl o) (Dd.bl _)⟩
theorem ev_notInD {d : PyData} {ds : List PyData} (h1 : Ev md S ta σ (D d)) (h2 : Ev md S tb σ (D (.list ds))) (sd : SeqAt.shaped d = true) (se : SeqAt.shaped (.list ds) = true) : Ev md S (tOp (rNotInD K) ta tb) σ (D (.bool (!ds.any fun z => PyData.eqv z d))) :=
  ev_op h1 h2 fun S1 x y _ hx hy S2 H R c o k => ⟨d, ds, Dd.dp (c.trans o.le) d hx, Dd.dp (c.trans o.le) _ hy, sd, se, k _ S2 H (Gr.refl o) (Dd.bl _)⟩
theorem idx_facts {ns : List Nat} {a : Nat} (h : a ∈ ns) : ns[ns.idxOf a]? = some a ∧ ∀ m z, m < ns.idxOf a → ns[m]? = some z → z ≠ a := by
  induction ns with
  | nil => cases h
  | cons x ns ih =>
    by_cases q : x = a
    · subst q
      rw [List.idxOf_cons_self]
      exact ⟨rfl, fun m z hm => by omega⟩
    · have h' : a ∈ ns := by
        rcases List.mem_cons.mp h with z | z
        · exact absurd z.symm q
        · exact z
      obtain ⟨i1, i2⟩ := ih h'
      have e : (x :: ns).idxOf a = ns.idxOf a + 1 := by
        rw [List.idxOf_cons]
        have : (x == a) = false := by simpa using q
        rw [this]
        rfl
      rw [e]
      refine ⟨i1, fun m z hm hz => ?_⟩
      cases m with
      | zero =>
        cases hz
        exact q
      | succ m => exact i2 m z (by omega) hz
/-- xs.index(y), a list of numbers -/
theorem ev_index {a : Nat} {ns : List Nat} (h1 : Ev md S ta σ (D (.list (ns.map fun n : Nat => PyData.int (n : Nat))))) (h2 : Ev md S tb σ (D (.int (a : Nat)))) (ha : a ∈ ns) : Ev md S (tBM K "list" (rIndex K) ta (tCons tb tNil)) σ (D (.int (ns.idxOf a : Nat))) := fun S1 H R e o k =>
  h1 S1 H _ e o fun x S2 H2 g2 hx => by
    have hx' : Dd S2 x _ := hx
    cases hx' with
    | @lst p xs _ e1 e2 =>
      rw [nats_of e2] at e1
      refine ⟨.inl ⟨rfl, _, SqL.of (g2.k.le _ _ e1)⟩, ea1 h2 S2 H2 _ (e.trans g2.st) g2.k fun vs S3 H3 g3 hv => ?_⟩
      obtain ⟨v, rfl, hw⟩ := hv.one
      rw [D_int hw]
      obtain ⟨i1, i2⟩ := idx_facts ha
      refine ⟨p, _, .int (a : Nat), ns.idxOf a, .int (a : Nat), rfl, rfl, SqL.of (g3.k.le _ _ (g3.st _ _ e1)), rfl, flat_ints ns, by rw [List.getElem?_map, i1]; rfl, ?_, ?_, k _ S3 H3 (g2.trans g3) (Dd.int _)⟩
      · show ((a : Int) == (a : Int)) = true
        simp
      · intro m z hm hz
        rw [List.getElem?_map] at hz
        cases q : ns[m]? with
        | none => rw [q] at hz; cases hz
        | some b =>
          rw [q] at hz
          cases hz
          have := i2 m b hm q
          show ((b : Int) == (a : Int)) = false
          have : ¬ ((b : Int) = (a : Int)) := by omega
          simp [this]
end KD
end
section
set_option linter.all false
set_option maxRecDepth 100000
set_option maxHeartbeats 4000000
/-! the rules that name the written part, with that part said -/
namespace KD
open PySem PySem.Spec PyProof.Rows L2 KR
variable {X : Cx} (K : PySem.W.Frag)
section
variable {e e2 : Expr} {ta tb te : TE} {tl : TE} {tA : TA} {tg : Expr} {p pos tpos : Pos} {elts : List Expr} {kk : Nat}
theorem pg_tupK {es : List Expr} {k : Nat} {t : TGs} {n : Nat} (hc : X.calm = true) (h : PGs X es t) (hK : X.K = K := by rfl)
    (hn : (assignEach es X.env).length = n := by rfl) (hst : (assignEach es X.env).findIdx? (·.1) = none := by rfl) : PG X (.Tuple es k pos) (gTup K n t) := by
  subst hK
  exact pg_tup hc h hn hst
theorem ix_listK (hK : X.K = K := by rfl) : IxR X (rIxL K) := by subst hK; exact ix_list
theorem ix_tupK (hK : X.K = K := by rfl) : IxR X (rIxT K) := by subst hK; exact ix_tup
theorem sl_listK (hK : X.K = K := by rfl) : SlR X (rSlL K) := by subst hK; exact sl_list
theorem sl_tupAK (hK : X.K = K := by rfl) : SlR X (rSlA K) := by subst hK; exact sl_tupA
theorem op_catAK (hK : X.K = K := by rfl) : OpR X (binaryOp .Add) (rCatA K) := by subst hK; exact op_catA
theorem op_in_seqK (hK : X.K = K := by rfl) : OpR X (compareOp .In) (rIn K false) := by subst hK; exact op_in_seq
theorem op_notIn_seqK (hK : X.K = K := by rfl) : OpR X (compareOp .NotIn) (rIn K true) := by subst hK; exact op_notIn_seq
theorem op_eqDK (hu : X.A.units + 64 < cLine) (hK : X.K = K := by rfl) : OpR X (compareOp .Eq) (rEqD K) := by subst hK; exact op_eqD hu
theorem op_neDK (hu : X.A.units + 64 < cLine) (hK : X.K = K := by rfl) : OpR X (compareOp .NotEq) (rNeD K) := by subst hK; exact op_neD hu
theorem op_inDK (hu : X.A.units + 65 < cLine) (hK : X.K = K := by rfl) : OpR X (compareOp .In) (rInD K) := by subst hK; exact op_inD hu
theorem op_notInDK (hu : X.A.units + 65 < cLine) (hK : X.K = K := by rfl) : OpR X (compareOp .NotIn) (rNotInD K) := by subst hK; exact op_notInD hu
theorem pi_listK {l : Expr} (hl : PE X l tl) (hK : X.K = K := by rfl) : PI X tg l (iList K tl) := by subst hK; exact pi_list hl
theorem pi_tupK {l : Expr} (hl : PE X l tl) (hK : X.K = K := by rfl) : PI X tg l (iTup K tl) := by subst hK; exact pi_tup hl
theorem pi_enumK (hg : Gl X "enumerate") (hm : X.mg "enumerate" = none) (ha : PA X [e] tA) (hK : X.K = K := by rfl) (hs : starEach [e] X.env = [(false, eval e X.env)] := by rfl) : PI X (.Tuple elts kk tpos) (.Call (.Name "enumerate" p) [e] [] pos) (iEnum K tA) := by
  subst hK
  exact pi_enum hg hm ha hs
theorem pi_enumTK (hg : Gl X "enumerate") (hm : X.mg "enumerate" = none) (ha : PA X [e] tA) (hK : X.K = K := by rfl) (hs : starEach [e] X.env = [(false, eval e X.env)] := by rfl) : PI X (.Tuple elts kk tpos) (.Call (.Name "enumerate" p) [e] [] pos) (iEnumT K tA) := by
  subst hK
  exact pi_enumT hg hm ha hs
theorem pi_zipTLK (hg : Gl X "zip") (hm : X.mg "zip" = none) (ha : PA X [e, e2] tA) (hK : X.K = K := by rfl)
    (hs : starEach [e, e2] X.env = (false, eval e X.env) :: starEach [e2] X.env := by rfl) (hpl : (backTo pos (starEach [e2] X.env)).any (·.1) = false := by rfl) :
    PI X (.Tuple elts kk tpos) (.Call (.Name "zip" p) [e, e2] [] pos) (iZipTL K tA) := by
  subst hK
  exact pi_zipTL hg hm ha hs hpl
theorem call_lenK (hK : X.K = K := by rfl) : CallR X (.builtin "len") (rLenS K) := by subst hK; exact call_len_seq
theorem call_listK (hK : X.K = K := by rfl) : CallR X (.type "list") (rListS K) := by subst hK; exact call_list_of
theorem call_tupleK (hK : X.K = K := by rfl) : CallR X (.type "tuple") (rTupS K) := by subst hK; exact call_tuple_of
theorem cr_sumK (hc : X.calm = true) (hK : X.K = K := by rfl) : CallR X (.builtin "sum") (rSum K) := by subst hK; exact cr_sum hc
theorem cr_allK (hc : X.calm = true) (hK : X.K = K := by rfl) : CallR X (.builtin "all") (rAll K) := by subst hK; exact cr_all hc
theorem cr_sortedK (hK : X.K = K := by rfl) : CallR X (.builtin "sorted") (rSortedI K) := by subst hK; exact cr_sortedI
theorem pe_fldK {f : Str} (he : PE X e ta) (hb : attributeBase e f X.env (eval e X.env) = eval e X.env) (hK : X.K = K := by rfl) : PE X (.Attribute e f pos) (tFld K ta f) := by subst hK; exact pe_fld he hb
theorem mt_indexK (hK : X.K = K := by rfl) : MtR X "list.index" (rIndex K) := by subst hK; exact mt_index
theorem mt_indexDK (hu : X.A.units + 65 < cLine) (hK : X.K = K := by rfl) : MtR X "list.index" (rIndexD K) := by subst hK; exact mt_indexD hu
end
theorem pe_bmK {T : String} {name : Str} {id : String} {r : V → List V → Hp → VK → Prop} {o e : Expr} {es : List Expr} {to : TE} {t : TA} {apos cpos : Pos} (pa : PlainAttrs T) (slot : Slot T name id) (hty : typeOf (.builtin id) = pure (.type "method_descriptor")) (hm : MtR X id r) (ho : PE X o to) (ha : PA X (e :: es) t) (hK : X.K = K := by rfl)
    (hbase : attributeBase o name X.env (eval o X.env) = eval o X.env := by rfl)
    (hfew : ((backTo cpos (starEach (e :: es) X.env)).all (fun x => !x.1) && (backToKw cpos (keywordEach [] X.env)).all (fun x => x.1.isSome)
      && decide ((e :: es).length + ([] : List Keyword).length + (if ([] : List Keyword).isEmpty then 0 else 1) < 30)) = true := by rfl)
    (hline : (apos.endLine == cpos.line) = true := by rfl) (hs : starEach (e :: es) X.env = (false, eval e X.env) :: starEach es X.env := by rfl) (hplain : (backTo cpos (starEach es X.env)).any (·.1) = false := by rfl) :
    PE X (.Call (.Attribute o name apos) (e :: es) [] cpos) (tBM K T r to t) := by
  subst hK
  exact pe_bm pa slot hty hm ho ha hbase hfew hline hs hplain
def rJoinS (K : PySem.W.Frag) : V → List V → Hp → VK → Prop := fun x xs H Q => ∃ a p, ∃ ys : List Str, x = .str a ∧ xs = [.ref p] ∧ (SqL K H p (ys.map V.str) ∨ SqT K H p (ys.map V.str)) ∧ (ys.map (·.length)).sum + ys.length * a.length ≤ 16777216 ∧ Q (.str (Txt.join a ys)) H
theorem pe_joinK {o e : Expr} {to te : TE} {apos pos : Pos} (ho : PE X o to) (he : PE X e te) (hK : X.K = K := by rfl) (hs : starEach [e] X.env = [(false, eval e X.env)] := by rfl) (hbase : attributeBase o "join" X.env (eval o X.env) = eval o X.env := by rfl) (hline : (apos.endLine == pos.line) = true := by rfl) :
    PE X (.Call (.Attribute o "join" apos) [e] [] pos) (tM1 (rJoinS K) to te) := by
  subst hK
  exact pe_join ho he hs hbase hline
end KD
end
section
set_option linter.all false
set_option maxRecDepth 100000
set_option maxHeartbeats 4000000
namespace K49
open PySem PySem.Spec PyProof.Rows L2 KR KD
/-! ### the text by places, what the top has left -/
def top (i : Nat) : Stmt := PySem.Challenge.pw_aheadfold_k49_whole_readers_written_and.main.body.getD i (.Pass ⟨0, 0, 0, 0⟩)
structure Txt (mg : Str → Option Value) : Prop where
  len : mg "len" = none
  range : mg "range" = none
  enumerate : mg "enumerate" = none
  sum : mg "sum" = none
  sorted : mg "sorted" = none
  list : mg "list" = none
  tuple : mg "tuple" = none
  dict : mg "dict" = none
  set : mg "set" = none
  zip : mg "zip" = none
  isinstance : mg "isinstance" = none
  int : mg "int" = none
  str : mg "str" = none
  bool : mg "bool" = none
  all : mg "all" = none
  MOST_ROOMS : ∃ t, mg "MOST_ROOMS" = some (.int 100 t)
  MOST_ARROWS : ∃ t, mg "MOST_ARROWS" = some (.int 400 t)
  MOST_ROWS : ∃ t, mg "MOST_ROWS" = some (.int 600 t)
  MOST_WINDOW : ∃ t, mg "MOST_WINDOW" = some (.int 6 t)
  MOST_LENGTH : ∃ t, mg "MOST_LENGTH" = some (.int 60 t)
  MOST_FIGURES : ∃ t, mg "MOST_FIGURES" = some (.int 6 t)
  FIGURES : ∃ t, mg "FIGURES" = some (.str "0123456789" t)
theorem pe_globI {X : Cx} {x : Str} {i : Int} {pos : Pos} (hg : Gl X x) (hm : ∃ t, X.mg x = some (.int i t)) (hd : (x == ("__debug__" : Str)) = false := by decide) : PE X (.Name x pos) (tC (.int i)) := by
  obtain ⟨t, h⟩ := hm
  exact pe_glob hg h ⟨_, rfl⟩ hd
theorem pe_globS {X : Cx} {x i : Str} {pos : Pos} (hg : Gl X x) (hm : ∃ t, X.mg x = some (.str i t)) (hd : (x == ("__debug__" : Str)) = false := by decide) : PE X (.Name x pos) (tC (.str i)) := by
  obtain ⟨t, h⟩ := hm
  exact pe_glob hg h ⟨_, rfl⟩ hd
/-- a def of the top and its promise; a method; an __init__ -/
structure Df (P : Program) (w : World) (K : PySem.W.Frag) (mg : Str → Option Value) (base : Heap) (x : Str) (k : Nat) (ps : List Str) (sp : Sp) : Prop where
  ex : ∃ f fd, FnOk P w K mg base CX0 k f fd ps sp ∧ mg x = some (.ref f) ∧ PySem.W.keepIn K (.ref f) = true ∧ Binds K fd ps []
structure Mf (P : Program) (w : World) (K : PySem.W.Frag) (mg : Str → Option Value) (base : Heap) (C : Addr) (m : Str) (k : Nat) (ps : List Str) (sp : Sp) : Prop where
  ex : ∃ f fd, FnOk P w K mg base CX0 k f fd ps sp ∧ Meth K C m f ∧ Binds K fd ps []
structure If (P : Program) (w : World) (K : PySem.W.Frag) (mg : Str → Option Value) (base : Heap) (x : Str) (C : Addr) (k : Nat) (ps : List Str) (sp : Sp) : Prop where
  ex : ∃ f fd, FnOk P w K mg base CX0 k f fd ps sp ∧ mg x = some (.ref C) ∧ Mk K C f ∧ Binds K fd ps []
structure WebC (K : PySem.W.Frag) (mg : Str → Option Value) (C : Addr) : Prop where
  cl : Cls K C
  mg : mg "Web" = some (.ref C)
  size : NoAttr K C "size"
  pairs : NoAttr K C "pairs"
  leaving : NoAttr K C "leaving"
  coming : NoAttr K C "coming"
  ty : ∀ {H : Hp} {a dx : Addr} {fs : List (Str × V)}, H a = some (.ins C dx fs) → TyOf K H (.ref a) (.ref C)
  one : PySem.W.kitOne K (.ref C) (.ref C) = some true
structure RdrC (K : PySem.W.Frag) (mg : Str → Option Value) (C : Addr) : Prop where
  cl : Cls K C
  mg : mg "Reader" = some (.ref C)
  source : NoAttr K C "source"
  goal : NoAttr K C "goal"
  wide : NoAttr K C "wide"
  told : NoAttr K C "told"
  ty : ∀ {H : Hp} {a dx : Addr} {fs : List (Str × V)}, H a = some (.ins C dx fs) → TyOf K H (.ref a) (.ref C)
  one : PySem.W.kitOne K (.ref C) (.ref C) = some true
/-! ### the data's forms -/
abbrev nI (n : Nat) : PyData := .int (n : Nat)
def tI (r : List Nat) : PyData := .tuple (r.map nI)
def lI (r : List Nat) : PyData := .list (r.map nI)
def pD (p : Nat × Nat) : PyData := .tuple [nI p.1, nI p.2]
def wD (w : W) : PyData := .tuple [nI w.1, .tuple (w.2.map pD)]
def rsD (rs : List (List Nat)) : PyData := .list (rs.map tI)
def psD (ps : List (Nat × Nat)) : PyData := .list (ps.map pD)
/-- a web of bounded size -/
structure Wb (w : W) : Prop extends WOk w where
  few : w.1 ≤ 50
  le : w.2.length ≤ 100

variable {md : Md} {S : Hp} {K : PySem.W.Frag} {σ : L2.St} {ta tb te : TE} {α : Type}
theorem ixN_nat {n a : Nat} (h : a < n) : ixN n (a : Nat) = some a := by
  unfold ixN
  rw [if_pos (by omega), if_pos (by omega)]
  rfl
theorem ixN_last {n : Nat} (h : 0 < n) : ixN n (-1) = some (n - 1) := by
  unfold ixN
  rw [if_neg (by omega), if_pos (by omega)]
  congr 1
  omega
/-- the item at a place, from the start, the last one -/
theorem ev_ixTN {xs : List α} {enc : α → PyData} {a : Nat} {x : α} (h1 : Ev md S ta σ (D (.tuple (xs.map enc)))) (h2 : Ev md S tb σ (D (nI a))) (h : xs[a]? = some x) : Ev md S (tOp (rIxT K) ta tb) σ (D (enc x)) := by
  have hl := (List.getElem?_eq_some_iff.mp h).1
  exact ev_ixT (j := a) h1.Dtup h2 (ixN_nat (by simpa using hl)) (by simp [h])
theorem ev_ixLN {xs : List α} {enc : α → PyData} {a : Nat} {x : α} (h1 : Ev md S ta σ (D (.list (xs.map enc)))) (h2 : Ev md S tb σ (D (nI a))) (h : xs[a]? = some x) : Ev md S (tOp (rIxL K) ta tb) σ (D (enc x)) := by
  have hl := (List.getElem?_eq_some_iff.mp h).1
  exact ev_ixL (j := a) h1.Dlst h2 (ixN_nat (by simpa using hl)) (by simp [h])
theorem ev_neg1 : Ev md S (tUn (rU fun i => .int (-i)) (tC (.int 1))) σ (D (.int (-1))) := fun S1 H R a o k => ⟨1, rfl, k _ S1 H (Gr.refl o) (Dd.int _)⟩
theorem ev_lastT {r : List Nat} (h1 : Ev md S ta σ (D (tI r))) (hr : r ≠ []) (h2 : Ev md S tb σ (D (.int (-1)))) : Ev md S (tOp (rIxT K) ta tb) σ (D (nI (lst0 r))) :=
  have hl : 0 < r.length := List.length_pos_iff.mpr hr
  ev_ixT (j := r.length - 1) h1.Dtup h2 (by
    rw [List.length_map, List.length_map]
    exact ixN_last hl) (by simp [lst0_get hr])
/-- w[0], w[1], w[1][a], w[1][a][0], w[1][a][1] -/
theorem ev_w0 {w : W} (h : Ev md S te σ (D (wD w))) : Ev md S (tOp (rIxT K) te (tC (.int 0))) σ (D (nI w.1)) := ev_ixT (j := 0) h.Dtup ev_int rfl rfl
theorem ev_w1 {w : W} (h : Ev md S te σ (D (wD w))) : Ev md S (tOp (rIxT K) te (tC (.int 1))) σ (D (.tuple (w.2.map pD))) := ev_ixT (j := 1) h.Dtup ev_int rfl rfl
theorem ev_p0 {p : Nat × Nat} (h : Ev md S te σ (D (pD p))) : Ev md S (tOp (rIxT K) te (tC (.int 0))) σ (D (nI p.1)) := ev_ixT (j := 0) h.Dtup ev_int rfl rfl
theorem ev_p1 {p : Nat × Nat} (h : Ev md S te σ (D (pD p))) : Ev md S (tOp (rIxT K) te (tC (.int 1))) σ (D (nI p.2)) := ev_ixT (j := 1) h.Dtup ev_int rfl rfl
theorem ev_pr {w : W} {a : Nat} (h : Ev md S te σ (D (.tuple (w.2.map pD)))) (h2 : Ev md S tb σ (D (nI a))) (ha : a < w.2.length) : Ev md S (tOp (rIxT K) te tb) σ (D (pD (pr w a))) := ev_ixTN h h2 (pr_at ha)
theorem ev_be {w : W} {a : Nat} (h : Ev md S te σ (D (wD w))) (h2 : Ev md S tb σ (D (nI a))) (ha : a < w.2.length) : Ev md S (tOp (rIxT K) (tOp (rIxT K) (tOp (rIxT K) te (tC (.int 1))) tb) (tC (.int 0))) σ (D (nI (be w a))) := ev_p0 (ev_pr (ev_w1 h) h2 ha)
theorem ev_en {w : W} {a : Nat} (h : Ev md S te σ (D (wD w))) (h2 : Ev md S tb σ (D (nI a))) (ha : a < w.2.length) : Ev md S (tOp (rIxT K) (tOp (rIxT K) (tOp (rIxT K) te (tC (.int 1))) tb) (tC (.int 1))) σ (D (nI (en w a))) := ev_p1 (ev_pr (ev_w1 h) h2 ha)
theorem ev_eqN {a b : Nat} (h1 : Ev md S ta σ (D (nI a))) (h2 : Ev md S tb σ (D (nI b))) : Ev md S (tOp rEq ta tb) σ (D (.bool (decide (a = b)))) := Ev.eq (ev_eqI h1 h2) (by congr 1; exact decide_eq_decide.mpr (by omega))
theorem ev_neN {a b : Nat} (h1 : Ev md S ta σ (D (nI a))) (h2 : Ev md S tb σ (D (nI b))) : Ev md S (tOp rNe ta tb) σ (D (.bool (!decide (a = b)))) := Ev.eq (ev_neI h1 h2) (by
  have : decide ((a : Int) = (b : Int)) = decide (a = b) := decide_eq_decide.mpr (by omega)
  show PyData.bool (!decide ((a : Int) = (b : Int))) = _
  rw [this])
theorem lI_map {β : Type} (f : β → Nat) (xs : List β) : lI (xs.map f) = .list (xs.map fun x => nI (f x)) := by
  unfold lI
  rw [List.map_map]
  rfl
theorem lI_ints (ns : List Nat) : lI ns = .list ((ns.map fun n : Nat => (n : Int)).map PyData.int) := by
  unfold lI
  rw [List.map_map]
  rfl
theorem ev_sumN {ns : List Nat} (h : Ev md S te σ (D (lI ns))) : Ev md S (tCB (rSum K) (tCons te tNil)) σ (D (nI ns.sum)) := by
  rw [lI_ints] at h
  refine (ev_sum h).eq ?_
  show PyData.int _ = PyData.int _
  congr 1
  clear h
  induction ns with
  | nil => rfl
  | cons n ns ih =>
    rw [List.map_cons, List.sum_cons, List.sum_cons]
    omega
end K49
end
section
set_option linter.all false
set_option maxRecDepth 100000
set_option maxHeartbeats 4000000
namespace K49
open PySem PySem.Spec PyProof.Rows L2 KR KD
/-! ### data that can be compared -/
structure Shp (n : Nat) (d : PyData) : Prop where
  lay : d.canLay0 = true
  dep : d.depth ≤ n
theorem Shp.shaped {n : Nat} {d : PyData} (h : Shp n d) (hn : n ≤ 64 := by decide) : SeqAt.shaped d = true := by
  show (d.canLay0 && decide (d.depth ≤ 64)) = true
  rw [Bool.and_eq_true]
  exact ⟨h.lay, decide_eq_true (Nat.le_trans h.dep hn)⟩
theorem Shp.le {m n : Nat} {d : PyData} (h : Shp m d) (e : m ≤ n) : Shp n d := ⟨h.lay, Nat.le_trans h.dep e⟩
theorem shp_all {n : Nat} : ∀ (ds : List PyData), (∀ d ∈ ds, Shp n d) → PyData.canLayAll0 ds = true ∧ PyData.depthAll ds ≤ n
  | [], _ => by simp [PyData.canLayAll0, PyData.depthAll]
  | d :: ds, h => by
    obtain ⟨a, b⟩ := shp_all ds fun d hd => h d (List.mem_cons_of_mem _ hd)
    have q := h d List.mem_cons_self
    refine ⟨by simp [PyData.canLayAll0, q.lay, a], ?_⟩
    have := q.dep
    simp only [PyData.depthAll]
    omega
theorem shp_list {n : Nat} {ds : List PyData} (h : ∀ d ∈ ds, Shp n d) : Shp (n + 1) (.list ds) := by
  obtain ⟨a, b⟩ := shp_all ds h
  exact ⟨by simp only [PyData.canLay0]; exact a, by simp only [PyData.depth]; omega⟩
theorem shp_tup {n : Nat} {ds : List PyData} (h : ∀ d ∈ ds, Shp n d) : Shp (n + 1) (.tuple ds) := by
  obtain ⟨a, b⟩ := shp_all ds h
  exact ⟨by simp only [PyData.canLay0]; exact a, by simp only [PyData.depth]; omega⟩
theorem shp_int (i : Int) : Shp 1 (.int i) := ⟨rfl, by simp [PyData.depth]⟩

theorem shp_non : Shp 1 .none := ⟨rfl, by simp [PyData.depth]⟩
theorem shp_lm {α : Type} {n : Nat} {f : α → PyData} (h : ∀ a, Shp n (f a)) (xs : List α) : Shp (n + 1) (.list (xs.map f)) := shp_list fun d hd => by
  obtain ⟨a, _, rfl⟩ := List.mem_map.mp hd
  exact h a
theorem shp_tm {α : Type} {n : Nat} {f : α → PyData} (h : ∀ a, Shp n (f a)) (xs : List α) : Shp (n + 1) (.tuple (xs.map f)) := shp_tup fun d hd => by
  obtain ⟨a, _, rfl⟩ := List.mem_map.mp hd
  exact h a
theorem shp_lI (r : List Nat) : Shp 2 (lI r) := shp_lm (fun a => shp_int _) r
theorem shp_tI (r : List Nat) : Shp 2 (tI r) := shp_tm (fun a => shp_int _) r
theorem shp_pD (p : Nat × Nat) : Shp 2 (pD p) := shp_tup (ds := [nI p.1, nI p.2]) fun d hd => by
  rcases List.mem_cons.mp hd with rfl | hd
  · exact shp_int _
  · rcases List.mem_cons.mp hd with rfl | hd
    · exact shp_int _
    · cases hd
theorem shp_psD (ps : List (Nat × Nat)) : Shp 3 (psD ps) := shp_lm shp_pD ps
theorem shp_nil : Shp 1 (.list []) := shp_list (ds := []) fun d hd => by cases hd
theorem eqv_nilR (ds : List PyData) : PyData.eqv (.list ds) (.list []) = ds.isEmpty := by
  cases ds with
  | nil => simp [PyData.eqv, PyData.eqvAll]
  | cons d ds => simp [PyData.eqv, PyData.eqvAll]
theorem eqv_same {n : Nat} {d : PyData} (h : Shp n d) : PyData.eqv d d = true := by
  first
    | exact PyData.eqv_refl d h.lay
    | exact SeqAt.eqv_refl d h.lay
    | exact P3.eqv_refl d h.lay
theorem eqv_nI (a b : Nat) : PyData.eqv (nI a) (nI b) = decide (a = b) := by
  have e : PyData.eqv (nI a) (nI b) = ((a : Int) == (b : Int)) := by simp only [nI, PyData.eqv]
  rw [e]
  by_cases h : a = b
  · simp [h]
  · have : ¬ ((a : Int) = (b : Int)) := by omega
    simp [h, this]
theorem eqvAll_nI : ∀ (r s : List Nat), PyData.eqvAll (r.map nI) (s.map nI) = decide (r = s)
  | [], [] => by simp [PyData.eqvAll]
  | [], _ :: _ => by simp [PyData.eqvAll]
  | _ :: _, [] => by simp [PyData.eqvAll]
  | a :: r, b :: s => by
    have e : PyData.eqvAll ((a :: r).map nI) ((b :: s).map nI) = (PyData.eqv (nI a) (nI b) && PyData.eqvAll (r.map nI) (s.map nI)) := by simp only [List.map_cons, PyData.eqvAll]
    rw [e, eqv_nI, eqvAll_nI r s]
    simp [Bool.decide_and]
theorem eqv_tI (r s : List Nat) : PyData.eqv (tI r) (tI s) = decide (r = s) := by
  have e : PyData.eqv (tI r) (tI s) = PyData.eqvAll (r.map nI) (s.map nI) := by simp only [tI, PyData.eqv]
  rw [e, eqvAll_nI]
theorem eqv_lI (r s : List Nat) : PyData.eqv (lI r) (lI s) = decide (r = s) := by
  have e : PyData.eqv (lI r) (lI s) = PyData.eqvAll (r.map nI) (s.map nI) := by simp only [lI, PyData.eqv]
  rw [e, eqvAll_nI]
end K49
end
section
set_option linter.all false
set_option maxRecDepth 100000
set_option maxHeartbeats 4000000
namespace K49
open PySem PySem.Spec PyProof.Rows L2 KR KD
variable {md : Md} {S H S' H' S1 H1 S0 H0 : Hp} {K : PySem.W.Frag} {σ : L2.St} {ta tb te tx : TE} {t u : TT} {P P1 P2 P3 : KD.Ty}
variable {D' : Ends} {tu tw tz : TS} {g : TG} {α : Type}
/-- list(range(n)), list(range(l, n)) -/
theorem rgV_nat (l n : Nat) : rgV (l : Nat) (n : Nat) = (List.range' l (n - l)).map fun i : Nat => V.int (i : Nat) := by
  unfold rgV
  have e : ((n : Int) - (l : Int)).toNat = n - l := by omega
  rw [e, List.range'_eq_map_range, List.map_map]
  exact List.map_congr_left fun i _ => by
    show V.int ((l : Int) + (i : Int)) = V.int ((l + i : Nat) : Int)
    rw [Int.natCast_add]
theorem ev_listRg1 {n : Nat} (h : Ev md S te σ (D (nI n))) (hn : n ≤ 100000) : Ev md S (tLstRg (tRg1 te)) σ (D (lI (List.range n))) := fun S1 H R a o k =>
  h S1 H _ a o fun v S2 H2 g2 hv => ⟨n, D_int hv, .of_le (by omega) (by omega) (by omega) (by omega), fun q hq => by
    have e := rgV_nat 0 n
    rw [show ((0 : Nat) : Int) = 0 from rfl, Nat.sub_zero, ← List.range_eq_range'] at e
    rw [e]
    exact k _ _ _ (g2.trans (g2.k.new hq)) (Dd.lst upd_same (by
      have := DdAll.ints (S := upd S2 q (.lst ((List.range n).map fun i : Nat => V.int (i : Nat)))) ((List.range n).map fun i : Nat => (i : Int))
      rw [List.map_map, List.map_map] at this
      exact this))⟩
theorem ev_listRg2 {l n : Nat} (h : Ev md S ta σ (D (nI l))) (h2 : Ev md S tb σ (D (nI n))) (hn : n ≤ 100000) (hl : l ≤ 100000) : Ev md S (tLstRg (tRg2 ta tb)) σ (D (lI (List.range' l (n - l)))) := fun S1 H R a o k =>
  h S1 H _ a o fun v S2 H2 g2 hv => h2 S2 H2 _ (a.trans g2.st) g2.k fun w S3 H3 g3 hw => ⟨l, n, D_int hv, D_int hw, .of_le (by omega) (by omega) (by omega) (by omega), fun q hq => by
    rw [rgV_nat]
    exact k _ _ _ ((g2.trans g3).trans (g3.k.new hq)) (Dd.lst upd_same (by
      have := DdAll.ints (S := upd S3 q (.lst ((List.range' l (n - l)).map fun i : Nat => V.int (i : Nat)))) ((List.range' l (n - l)).map fun i : Nat => (i : Int))
      rw [List.map_map, List.map_map] at this
      exact this))⟩
/-- an object of our own through a step -/
structure Own (md : Md) (S0 H0 S H : Hp) (l : Addr) (o : HO) : Prop where
  h0 : H0 l = none
  s : S l = none
  h : H l = some o
  nt : NoTup o := by exact True.intro
theorem Own.step {l : Addr} {o : HO} {Sx Hx : Hp} (w : Own md S0 H0 S H l o) (g0 : Gr md S0 H0 Sx Hx) (g : Gr md S H S' H') : Own md S0 H0 S' H' l o := by
  obtain ⟨a, b⟩ := g.keep w.s w.h (g0.nm w.h0) w.nt
  exact ⟨w.h0, b, a, w.nt⟩
theorem Own.upd {l : Addr} {o o' : HO} (w : Own md S0 H0 S H l o) (g : Gr md S0 H0 S H) (nt : NoTup o' := by exact True.intro) : Gr md S0 H0 S (upd H l o') ∧ Own md S0 H0 S (upd H l o') l o' := ⟨g.mut w.h0 w.s, w.h0, w.s, upd_same, nt⟩
/-- .. while another one changes -/
theorem Own.other {l l' : Addr} {o o' : HO} (w : Own md S0 H0 S H l o) (n : l ≠ l') : Own md S0 H0 S (L2.upd H l' o') l o := ⟨w.h0, w.s, by rw [upd_ne n]; exact w.h, w.nt⟩
/-- .. put among what stays -/
theorem Own.put {l : Addr} {o : HO} (w : Own md S0 H0 S H l o) (g : Gr md S0 H0 S H) : Gr md S0 H0 (L2.upd S l o) H := g.frz w.h0 w.s w.h
theorem Own.puts {l : Addr} {o : HO} (w : Own md S0 H0 S H l o) : Same S (L2.upd S l o) := same_new w.s
theorem Own.ne {l l' : Addr} {o : HO} {xs : List V} {o2 : HO} (w : Own md S0 H0 S H l o) (h : S l' = some o2) : l ≠ l' := fun z => by
  rw [← z, w.s] at h
  cases h
/-- xs[i] = e, a list of our own -/
theorem s_setO {l : Addr} {xs : List V} {j : Nat} (h : Ev md S te σ P) (ha : ∀ (H : Hp) (R : VK), R (.ref l) H → ta σ H R) (hi : Ev md S tb σ (D (nI j))) (g : Gr md S0 H0 S H) (w : Own md S0 H0 S H l (.lst xs)) (hj : j < xs.length)
    (k : ∀ v S' H', Gr md S0 H0 S' H' → Same S S' → Own md S0 H0 S' H' l (.lst (xs.set j v)) → P.ok S' v → D'.nx σ H') : tAsg te (gSub ta tb rSetL) D' σ H :=
  h S H _ (Same.refl _) g.k fun v S2 H2 g2 hv => ha H2 _ (hi S2 H2 _ g2.st g2.k fun i S3 H3 g3 hi' => by
    have w3 := w.step g (g2.trans g3)
    rw [D_int hi']
    obtain ⟨a, b⟩ := w3.upd (o' := .lst (xs.set j v)) (g.trans (g2.trans g3))
    exact ⟨l, xs, j, j, rfl, rfl, w3.h, ixN_nat hj, k v S3 _ a (g2.st.trans g3.st) b (P.up g3.st hv)⟩)
/-- xs.append(e) -/
theorem s_appO {l : Addr} {xs : List V} (ha : ∀ (H : Hp) (R : VK), R (.ref l) H → ta σ H R) (h : Ev md S te σ P) (g : Gr md S0 H0 S H) (w : Own md S0 H0 S H l (.lst xs)) (hz : xs.length < 100000)
    (k : ∀ v S' H1 H', Gr md S H S' H1 → H' = L2.upd H1 l (.lst (xs ++ [v])) → Gr md S0 H0 S' H' → Same S S' → Own md S0 H0 S' H' l (.lst (xs ++ [v])) → P.ok S' v → D'.nx σ H') : tDrop (tBM K "list" rAppend ta (tCons te tNil)) D' σ H :=
  ha H _ ⟨.inl ⟨rfl, xs, SqL.of w.h⟩, h S H _ (Same.refl _) g.k fun v S2 H2 g2 hv => by
    have w2 := w.step g g2
    obtain ⟨a, b⟩ := w2.upd (o' := .lst (xs ++ [v])) (g.trans g2)
    exact ⟨l, xs, v, rfl, rfl, w2.h, Nat.lt_of_lt_of_le hz (by decide), k v S2 H2 _ g2 rfl a g2.st b hv⟩⟩
theorem q_appO {l : Addr} {xs : List V} (ha : ∀ (H : Hp) (R : VK), R (.ref l) H → ta σ H R) (h : Ev md S te σ P) (g : Gr md S0 H0 S H) (w : Own md S0 H0 S H l (.lst xs)) (hz : xs.length < 100000)
    (k : ∀ v S' H1 H', Gr md S H S' H1 → H' = L2.upd H1 l (.lst (xs ++ [v])) → Gr md S0 H0 S' H' → Same S S' → Own md S0 H0 S' H' l (.lst (xs ++ [v])) → P.ok S' v → tz D' σ H') : tSeq (tDrop (tBM K "list" rAppend ta (tCons te tNil))) tz D' σ H :=
  s_appO (D' := { D' with nx := tz D' }) ha h g w hz k
theorem q_asgO {i : Nat} {ts : List KD.Ty} (h : EvN md S te σ ts) (g : Gr md S0 H0 S H) (k : ∀ p vs S' H', Gr md S0 H0 S' H' → Gr md S H S' H' → Own md S0 H0 S' H' p (.lst vs) → All S' vs ts → tz D' (σ.set i (some (.ref p))) H') : tSeq (tAsg te (gName i)) tz D' σ H :=
  q_asgN h g fun p vs S' H' a b c d e f => k p vs S' H' a b ⟨c, d, e, True.intro⟩ f
/-- what an own list holds, as an operand: it is put among what stays -/
theorem All.set {vs : List V} {ts : List KD.Ty} (h : All S vs ts) (j : Nat) {v : V} (hv : P.ok S v) : All S (vs.set j v) (ts.set j P) := by
  induction h generalizing j with
  | nil => exact .nil
  | cons a b ih =>
    cases j with
    | zero => exact .cons hv b
    | succ j => exact .cons a (ih j)
/-- a place forgotten -/
def cutH (S : Hp) (l : Addr) : Hp := fun p => if p = l then none else S p
theorem cutH_same {S : Hp} {l : Addr} : cutH S l l = none := by unfold cutH; rw [if_pos rfl]
theorem cutH_ne {S : Hp} {l p : Addr} (h : p ≠ l) : cutH S l p = S p := by unfold cutH; rw [if_neg h]
theorem peek_gr {l : Addr} {o : HO} (hs : S l = none) (hm : ¬ md.M l) (ok : Ok md S H) (g : Gr md (L2.upd S l o) H S' H') : Gr md S H (cutH S' l) H' := by
  refine ⟨ok, ⟨fun p u e => ?_, g.k.b, fun p z => ⟨?_, (g.k.m p z).2⟩⟩, fun p u e => ?_, g.fr, g.on, fun p u m a t b => ?_⟩
  · by_cases q : p = l
    · rw [q, cutH_same] at e
      cases e
    · rw [cutH_ne q] at e
      exact g.k.le p u e
  · have q : p ≠ l := fun c => hm (c ▸ z)
    rw [cutH_ne q]
    exact (g.k.m p z).1
  · have q : p ≠ l := ne_of_none e hs
    rw [cutH_ne q]
    exact g.st p u (by rw [upd_ne q]; exact e)
  · by_cases q : p = l
    · rw [q, cutH_same]
    · rw [cutH_ne q]
      exact g.nw p u m a t (by rw [upd_ne q]; exact b)
/-- what is read of an own list on the way -/
theorem Own.peek {l : Addr} {o : HO} {R : VK} (w : Own md S0 H0 S H l o) (g : Gr md S0 H0 S H) (h : Ev md (L2.upd S l o) te σ P) (k : ∀ v S2 S' H', Gr md S0 H0 S' H' → Gr md S H S' H' → Own md S0 H0 S' H' l o → P.ok S2 v → R v H') : te σ H R :=
  h (L2.upd S l o) H _ (Same.refl _) (w.put g).k fun v S2 H2 g2 hv => by
    have q := peek_gr w.s (g.nm w.h0) g.k g2
    exact k v S2 _ H2 (g.trans q) q (w.step g q) hv
theorem Own.peekT {b : Bool} {l : Addr} {o : HO} {R : Bool → Hp → Prop} (w : Own md S0 H0 S H l o) (g : Gr md S0 H0 S H) (h : EvT md (L2.upd S l o) t σ b) (k : ∀ S' H', Gr md S0 H0 S' H' → Gr md S H S' H' → Own md S0 H0 S' H' l o → R b H') : t σ H R :=
  h (L2.upd S l o) H _ (Same.refl _) (w.put g).k fun S2 H2 g2 => by
    have q := peek_gr w.s (g.nm w.h0) g.k g2
    exact k _ H2 (g.trans q) q (w.step g q)
end K49
end
section
set_option linter.all false
set_option maxRecDepth 100000
set_option maxHeartbeats 4000000
/-! own rules: sorted of a dict whose keys are rising tuples of numbers -/
namespace KR
open PySem PySem.Spec PyProof.Rows L2 PySem.W
/-- a row of numbers as a key -/
def keyN (r : List Nat) : List L2.Key := r.map fun n : Nat => Sum.inl (n : Int)
theorem keyN_kV (r : List Nat) : (keyN r).map kV = r.map fun n : Nat => V.int (n : Nat) := by
  unfold keyN
  rw [List.map_map]
  rfl
theorem keyN_inj : ∀ {r s : List Nat}, keyN r = keyN s → r = s
  | [], [], _ => rfl
  | [], _ :: _, h => by cases h
  | _ :: _, [], h => by cases h
  | a :: r, b :: s, h => by
    injection h with h1 h2
    injection h1 with h1
    rw [keyN_inj (r := r) (s := s) h2, show a = b by omega]
def encN (b : Addr × List Nat) : PyData := .tuple (b.2.map fun n : Nat => .int (n : Nat))
theorem alikeN : ∀ r s : List Nat, alikeAll (r.map fun n : Nat => .int (n : Nat)) (s.map fun n : Nat => .int (n : Nat)) = true
  | [], _ => by simp [alikeAll]
  | _ :: _, [] => by simp [alikeAll]
  | x :: xs, y :: ys => by
    show alikeAll (.int (x : Nat) :: xs.map fun n : Nat => .int (n : Nat)) (.int (y : Nat) :: ys.map fun n : Nat => .int (n : Nat)) = true
    rw [alikeAll, alikeN xs ys]
    simp [alike]
theorem depthN : ∀ r : List Nat, PyData.depthAll (r.map fun n : Nat => .int (n : Nat)) = 0
  | [] => by simp [PyData.depthAll]
  | x :: xs => by
    show PyData.depthAll (.int (x : Nat) :: xs.map fun n : Nat => .int (n : Nat)) = 0
    rw [PyData.depthAll, depthN xs]
    simp [PyData.depth]
theorem lt_castN : ∀ {r s : List Nat}, r < s → (r.map fun n : Nat => (n : Int)) < (s.map fun n : Nat => (n : Int))
  | [], [], h => absurd h (List.lt_irrefl _)
  | [], _ :: _, _ => List.nil_lt_cons _ _
  | _ :: _, [], h => absurd h (List.not_lt_nil _)
  | a :: r, b :: s, h => by
    rw [List.map_cons, List.map_cons]
    rcases List.cons_lt_cons_iff.mp h with h | ⟨h1, h2⟩
    · exact List.cons_lt_cons_iff.mpr (.inl (by omega))
    · exact List.cons_lt_cons_iff.mpr (.inr ⟨by rw [h1], lt_castN h2⟩)
theorem le_castN {b c : Addr × List Nat} (h : b.2 < c.2) : dataLe false encN b c = true := by
  show (!dataLt (encN c) (encN b)) = true
  unfold encN
  rw [dataLt_tuple]
  have e : ∀ r : List Nat, (r.map fun n : Nat => PyData.int (n : Nat)) = (r.map fun n : Nat => (n : Int)).map PyData.int := fun r => by rw [List.map_map]; rfl
  rw [e, e]
  show (!rowLt _ _) = true
  rw [dataLt_ints]
  have := lt_castN h
  have n : ¬ ((c.2.map fun n : Nat => (n : Int)) < (b.2.map fun n : Nat => (n : Int))) := fun z => List.lt_irrefl _ (List.lt_trans this z)
  simp [n]
/-- sorted(d) -/
def rSortDT : List V → Hp → VK → Prop := fun xs H Q => ∃ (d : Addr) (kvs : List (List L2.Key × V)) (rows : List (List Nat)), xs = [.ref d] ∧ L2.Rd H d (.dT kvs) ∧ kvs.map (·.1) = rows.map keyN ∧ rows.Pairwise (· < ·) ∧ (∀ r ∈ rows, r ≠ []) ∧
  ∀ p bs, H p = none → IsKeys H kvs bs → Q (.ref p) (upd H p (.lst (bs.map V.ref)))
theorem zip_keys {H : Hp} : ∀ {kvs : List (List L2.Key × V)} {xs : List (List L2.Key × Addr × Value)} {rows : List (List Nat)}, KT H kvs xs → kvs.map (·.1) = rows.map keyN → xs.map (·.1) = rows.map keyN ∧ ∀ b ∈ (xs.map (·.2.1)).zip rows, H b.1 = some (.tup (b.2.map fun n : Nat => V.int (n : Nat)))
  | _, _, [], .nil, _ => ⟨rfl, fun b hb => by cases hb⟩
  | _, _, _ :: _, .nil, e => by cases e
  | _, _, [], .cons _ _, e => by cases e
  | _, _, r :: rows, .cons h t, e => by
    injection e with e1 e2
    obtain ⟨a, b⟩ := zip_keys t e2
    obtain ⟨h1, h2, h3⟩ := h
    refine ⟨by rw [List.map_cons, List.map_cons, a, h1.symm.trans e1], fun b' hb => ?_⟩
    rcases List.mem_cons.mp hb with rfl | hb
    · show H _ = _
      have e1' : _ = keyN r := e1
      rw [h2]
      congr 2
      rw [← keyN_kV, ← e1']
    · exact b b' hb
theorem reads_ints {h : Heap} : ∀ (ns : List Nat) {us : List Value}, Vals (ns.map fun n : Nat => V.int (n : Nat)) us → ReadsAll h us (ns.map fun n : Nat => PyData.int (n : Nat)) []
  | [], _, r => by
    cases r
    exact .nil
  | n :: ns, _, r => by
    cases r with
    | cons r rr =>
      obtain ⟨t, rfl⟩ := r
      exact .cons (.int _ t) (reads_ints ns rr)
theorem each_rows {P : Program} {w : World} {H : Hp} {h : Heap} (L : Addr) (ok : HOk P w H h) : ∀ (bs : List (Addr × List Nat)), (∀ b ∈ bs, H b.1 = some (.tup (b.2.map fun n : Nat => V.int (n : Nat)))) →
    EachIs (fun v (b : Addr × List Nat) => ∃ as, Reads h v (encN b) as ∧ L ∉ as) (bs.map fun b => Value.ref b.1) bs
  | [], _ => .nil
  | b :: bs, hall => by
    refine .cons ?_ (each_rows L ok bs fun b' hb => hall b' (List.mem_cons_of_mem _ hb))
    obtain ⟨_, its, rv, ob, g1, g2, n, g3⟩ := (show ObjOk P w H h b.1 (.tup (b.2.map fun n : Nat => V.int (n : Nat))) from ok b.1 _ (hall b List.mem_cons_self))
    exact ⟨[], .tuple g1 g2 g3 (by simpa using reads_ints b.2 rv), fun z => by cases z⟩
theorem each_refs : ∀ (bs : List (Addr × List Nat)), EachIs (fun v (b : Addr × List Nat) => v = Value.ref b.1) (bs.map fun b => Value.ref b.1) bs
  | [] => .nil
  | _ :: bs => .cons rfl (each_refs bs)
theorem refs_each : ∀ {bs : List (Addr × List Nat)} {vs : List Value}, EachIs (fun v (b : Addr × List Nat) => v = Value.ref b.1) vs bs → vs = bs.map fun b => Value.ref b.1
  | _, _, .nil => rfl
  | _, _, .cons h t => by rw [h, refs_each t]; rfl
section
variable {X : Cx}
theorem cr_sortedDT (hcalm : X.calm = true) (hu : X.A.units + 64 < cLine) : CallR X (.builtin "sorted") rSortDT := by
  intro pins s σ H xs us Q I r h
  obtain ⟨d, kvs, rows, rfl, hd, hk, hp, hne, q⟩ := h
  obtain ⟨u, rfl, rx⟩ := vals1 r
  cases rx
  obtain ⟨z, hs, ks, pr, o, es, ep, ho, hx, hdt, he, hn⟩ := (show ObjOk X.prog X.w H s.heap d (.dT kvs) from hd.ok I.hok)
  have l1 : es.size = ks.length := size_of_entries he
  have l2 : kvs.length = ks.length := Paired.length pr
  obtain ⟨hkr, hat⟩ := zip_keys pr hk
  have l3 : ks.length = rows.length := by
    have := congrArg List.length hkr
    rw [List.length_map, List.length_map] at this
    exact this
  refine Calls.call_function_entry PyProof.Rows.kind_sorted PyProof.Rows.plain_sorted PyProof.Rows.entry_sorted (PyProof.Rows.args_sorted1 _) ?_
  unfold Builtin.«sorted»
  refine wpAny_bind (m := checkCount "sorted" 1 1 _) (wpAny_pure ?_)
  refine wpAny_bind (PySem.W.kdu_collect (A := X.A.in1) (kdl_raw hs hx hdt) (I.ok.hd hcalm) ho (by omega) fun h' tk acc hkeep it => ?_)
  have ea : acc.toList = ks.map fun x => Value.ref x.2.1 := by
    have hl : acc.toList.length = ks.length := by rw [Array.length_toList, it.1]; exact l1
    apply List.ext_getElem?
    intro j
    rw [List.getElem?_map]
    cases hj : acc.toList[j]? with
    | none =>
      have h1 := List.getElem?_eq_none_iff.mp hj
      rw [List.getElem?_eq_none (by omega)]
      all_goals rfl
    | some v =>
      obtain ⟨en, hen, hv⟩ := it.2 j v (by rw [← Array.getElem?_toList]; exact hj)
      have qe := entry_at he j
      rw [hen] at qe
      cases hb : ks[j]? with
      | none =>
        rw [hb] at qe
        exact nomatch (show some en = none from qe)
      | some b =>
        rw [hb] at qe
        have e2 : en = entryOfKey (tupleKind (mixKind X.prog X.w)) b := Option.some.inj qe
        rw [hv, e2]
        all_goals rfl
  have I1 : Inv X pins σ H { s with heap := h', toks := tk } := I.kept hkeep
  have hal : acc.toList.length = rows.length := by rw [ea, List.length_map, l3]
  refine wpAny_bind (wpAny_newList ?_ (by rw [hal]; omega))
  have hoL : (h'.push (seqObj "list" acc.toList.toArray 0)).get? h'.objs.size = some (seqObj "list" acc.toList.toArray 0) := Heap.get?_push_size _ rfl
  show wpAny _ _ _ _ _ { s with heap := h'.push (seqObj "list" acc.toList.toArray 0), toks := tk }
  generalize hbs : (ks.map (·.2.1)).zip rows = bs
  have lbs : bs.length = rows.length := by rw [← hbs, List.length_zip, List.length_map, l3, Nat.min_self]
  have b1 : bs.map (·.1) = ks.map (·.2.1) := by rw [← hbs, List.map_fst_zip (by rw [List.length_map, l3]; exact Nat.le_refl _)]
  have b2 : bs.map (·.2) = rows := by rw [← hbs, List.map_snd_zip (by rw [List.length_map, l3]; exact Nat.le_refl _)]
  have el : acc.toList = bs.map fun b => Value.ref b.1 := by
    have e1 : (ks.map fun x => Value.ref x.2.1) = (ks.map (·.2.1)).map Value.ref := by rw [List.map_map]; rfl
    rw [ea, e1, ← b1, List.map_map]
    rfl
  have I2 : Inv X pins σ H { s with heap := h'.push (seqObj "list" acc.toList.toArray 0), toks := tk } := I1.kept fun b ob e => Heap.get?_push_of_some _ e
  have eD := each_rows h'.objs.size I2.hok bs fun b hb => hat b (by rw [hbs]; exact hb)
  have eR := each_refs bs
  rw [← el] at eD eR
  have hsort : bs.mergeSort (dataLe false encN) = bs := List.mergeSort_of_pairwise (by
    have hp' : (bs.map (·.2)).Pairwise (· < ·) := by rw [b2]; exact hp
    exact (List.pairwise_map.mp hp').imp fun h => le_castN h)
  refine wpAny_bind (wpAny_holding (list_sort_data (s := { s with heap := h'.push (seqObj "list" acc.toList.toArray 0), toks := tk }) (enc := encN) hoL eR eD (AllAlike.of fun b b' => ?_) ?_ (by rw [lbs]; omega) (fun b hb => ?_) fun out lo eo => ?_))
  · show alike (.tuple _) (.tuple _) = true
    rw [alike]
    exact alikeN _ _
  · refine .inl fun d hd => ?_
    obtain ⟨b, hb, rfl⟩ := List.mem_map.mp hd
    have hr : b.2 ∈ rows := by rw [← b2]; exact List.mem_map.mpr ⟨b, hb, rfl⟩
    unfold encN
    cases e : b.2 with
    | nil => exact absurd e (hne _ hr)
    | cons x r => exact ⟨_, _, rfl⟩
  · have : (encN b).depth ≤ 1 := by
      unfold encN
      simp only [PyData.depth]
      rw [depthN]
      omega
    show X.A.units + 1 + 1 + (encN b).depth < cLine
    omega
  · rw [hsort] at eo
    have eo' := refs_each eo
    subst eo'
    obtain ⟨e', he'⟩ := PyProof.Rows.sortedHeap_at (vs := acc.toList) (out := (bs.map fun b => Value.ref b.1).toArray) hoL
    have e2 : (bs.map fun b => Value.ref b.1) = (ks.map (·.2.1)).map Value.ref := by rw [← b1, List.map_map]; rfl
    refine wpAny_pure ⟨_, rfl, .ref h'.objs.size, upd H h'.objs.size (.lst ((ks.map fun x => x.2.1).map V.ref)), I1.laid (t' := tk) (fun b u e => ?_) (Nat.le_refl _)
      (show ObjOk X.prog X.w _ _ _ (.lst ((ks.map fun x => x.2.1).map V.ref)) from ⟨by rw [List.length_map, List.length_map]; omega, (bs.map fun b => Value.ref b.1), e', ?_, he'⟩), rfl, q _ _ (I1.hok.fresh (Nat.le_refl _)) (isKeys_of pr)⟩
    · have hb : b < h'.objs.size := Heap.lt_size e
      show (sortedHeap (h'.push (seqObj "list" acc.toList.toArray 0)) h'.objs.size acc.toList _).get? b = some u
      rw [PyProof.Rows.sortedHeap_old (Nat.ne_of_lt hb) (by rw [size_push']; exact Nat.lt_succ_of_lt hb)]
      exact Heap.get?_push_of_some _ e
    · rw [e2]
      exact vals_refs _
end
end KR
end
section
set_option linter.all false
set_option maxRecDepth 100000
set_option maxHeartbeats 4000000
/-! own rules: dict comprehensions and setdefault where the keys are tuples -/
namespace KR
open PySem PySem.Spec PyProof.Rows L2
section
variable {X : Cx} {pins : List (Addr × Obj)} {σ : L2.St} {H : Hp} {s : Shared}
/-- what stands behind a store at a tuple's key -/
theorem put_T {P : Program} {w : World} {D b : Addr} {kvs : List (List L2.Key × V)} {xs : List (List L2.Key × Addr × Value)} {k : List L2.Key} {v : V} {r : Value} {h' : Heap} (few : kvs.length < sizeLine) (lo : (D == sysModules) = false) (rel : KT H kvs xs)
    (hD : H D = some (.dT kvs)) (hb : H b = some (.tup (k.map kV))) (rv : L2.RelV v r) (dd : h'.DictOfH (tupleKind (mixKind P w)) D (storedH xs k b r)) : ObjOk P w (upd H D (.dT (putK kvs k v))) h' D (.dT (putK kvs k v)) := by
  obtain ⟨q, es, ep, g1, g2, g3, g4, _, g5⟩ := dd
  have stay : ∀ c ys, H c = some (.tup ys) → upd H D (.dT (putK kvs k v)) c = some (.tup ys) := fun c ys ec => by
    rw [upd_ne (ne_of ec hD (fun z => nomatch z))]
    exact ec
  exact ⟨by have := length_putK kvs k v; omega, lo, _, (rel.put k hb rv).keeps stay, q, es, ep, g1, g2, g3, g4, g5⟩
/-- D[key] = value within a comprehension, the key a tracked tuple -/
theorem set_T {E : Value → Shared → Prop} {D b : Addr} {kvs : List (List L2.Key × V)} {k : List L2.Key} {v : V} {r : Value} {Q : Unit → Shared → Prop} (hu : X.A.units + 1 < cLine) (I : Inv X pins σ H s)
    (hD : H D = some (.dT kvs)) (hb : H b = some (.tup (k.map kV))) (few : kvs.length < sizeLine) (rv : L2.RelV v r) (h : ∀ s', Inv X pins σ (upd H D (.dT (putK kvs k v))) s' → Q () s') : wpAny (model X.prog X.w) X.A (dictSet D (.ref b) r) Q E s := by
  obtain ⟨z, lo, xs, rel, dd⟩ := dt_of I.hok hD
  have hx : xs.length ≤ sizeLine := by rw [← Paired.length rel]; exact z
  refine wpAny_dictSet_heap (hsz := hx) (knd := tupleKind (mixKind X.prog X.w)) (show X.A.units < cLine by omega) (key_of I.hok hb) dd fun h' dd' same => h _ ?_
  obtain ⟨q, _, _, hq, _⟩ := id dd'
  exact d_write I (by rw [hD]; exact True.intro) same ⟨q, hq⟩ (put_T few lo rel hD hb rv dd')
end
/-! ### d.setdefault(key, z) -/
def tSetdT (td ty tx : TE) : TE := fun σ H Q => td σ H fun x H1 => ∃ a, x = .ref a ∧ IsD H1 a ∧ ty σ H1 fun y H2 => tx σ H2 fun z H3 => ∃ (kvs : List (List L2.Key × V)) (k : List L2.Key) (b : Addr), H3 a = some (.dT kvs) ∧ y = .ref b ∧ H3 b = some (.tup (k.map kV)) ∧ kvs.length < sizeLine ∧
  (∀ v, valV kvs k = some v → Q v H3) ∧ (valV kvs k = none → Q z (upd H3 a (.dT (putK kvs k z))))
theorem pe_setdefT {X : Cx} {o e f : Expr} {td ty tx : TE} {apos cpos : Pos} (hu : X.A.units + 1 < cLine) (ho : PE X o td) (he : PE X e ty) (hf : PE X f tx) (m : M2 X o "setdefault" apos e f cpos) : PE X (.Call (.Attribute o "setdefault" apos) [e, f] [] cpos) (tSetdT td ty tx) := by
  refine ⟨fun pins s σ H Q I h => ?_⟩
  refine wpAny_Call_method m.base m.few m.line PySem.F.plainAttrs_dict PySem.F.slot_dict_setdefault PySem.F.type_dict_setdefault (thn (ho.run pins s σ H _ I h) fun du s1 hd => ?_)
  obtain ⟨x, H1, I1, rx, a, rfl, isd, h1⟩ := hd
  obtain rfl : du = Value.ref a := rx
  obtain ⟨c1, c2, _⟩ := isD_at I1 isd
  refine ⟨c1, c2, ?_⟩
  rw [m.trees]
  refine Calls.callWith_builtin rfl (Calls.evalArgs_plain (Calls.spliced_cons (thn (he.run pins s1 σ H1 _ I1 h1) fun ku s2 hk => ?_)))
  obtain ⟨y, H2, I2, ry, h2⟩ := hk
  refine Calls.spliced_cons (thn (hf.run pins s2 σ H2 _ I2 h2) fun zu s3 hz => Calls.spliced_nil ?_)
  obtain ⟨z, H3, I3, rz, kvs, k, b, eD, rfl, eb, few, q1, q2⟩ := hz
  cases (show ku = Value.ref b from ry)
  obtain ⟨zz, lo, xs, rel, dd⟩ := dt_of I3.hok eD
  have hx : xs.length ≤ sizeLine := by rw [← Paired.length rel]; exact zz
  have rval := rel.val k
  refine call_setdefault_heap (hsz := hx) (knd := tupleKind (mixKind X.prog X.w)) (show X.A.units + 1 < cLine from hu) (key_of I3.hok eb) lo dd (fun p hp => ?_) fun hno h' dd' same => ?_
  · rw [hp] at rval
    cases e : valV kvs k with
    | none =>
      rw [e] at rval
      exact (show False from rval).elim
    | some v =>
      rw [e] at rval
      exact ⟨v, H3, I3.tok _, rval, q1 v e⟩
  · rw [hno] at rval
    cases e : valV kvs k with
    | some v =>
      rw [e] at rval
      exact (show False from rval).elim
    | none =>
      obtain ⟨q, _, _, hq, _⟩ := id dd'
      exact ⟨z, _, d_write I3 (by rw [eD]; exact True.intro) same ⟨q, hq⟩ (put_T few lo rel eD eb rz dd'), rz, q2 e⟩

/-! ### {key: value for target in iter}, the keys tracked tuples -/
def tDcT (wi : TI) (g : TG) (tk tv : TE) (vs : List Nat) : TE := fun σ H Q => wi σ H fun J H1 => ∀ D, H1 D = none → ∃ W : Nat → Nat → Hp → Prop, (∃ m, W 0 m (upd H1 D (.dT []))) ∧ ∀ i m H, W i m H →
  (J.stop i H ∧ Q (.ref D) H) ∨ (J.go i H ∧ ∃ Nx : Hp → Prop, (∀ H', Nx H' → ∃ m', m' < m ∧ W (i + 1) m' H') ∧ ∀ x H', J.yld i H x H' → g x (wipe σ vs) H' fun σ2 H2 => wipe σ2 vs = wipe σ vs ∧
    tk σ2 H2 fun y H4 => tv σ2 H4 fun z H5 => ∃ kvs k b, y = .ref b ∧ H5 b = some (.tup (k.map kV)) ∧ H5 D = some (.dT kvs) ∧ kvs.length < sizeLine ∧ Nx (upd H5 D (.dT (putK kvs k z))))
section
variable {X : Cx}
theorem pe_dcompT {kx vx tg iter : Expr} {scope : Scope} {own : List (Str × Nat)} {pos : Pos} {wi : TI} {g : TG} {tk tv : TE} (hu : X.A.units + 1 < cLine) (hc : X.calm = true) (hN : X.N.Nodup) (hi : PI X tg iter wi) (ok : BlkOk X.N X.env.scope scope own)
    (hg : ∀ (s : Shared) (H : Hp) (C : Addr) (cl : List (Str × Addr)) (fp : List Addr), PG (X.blk s H scope (compEnvC scope cl C X.env) fp) tg g)
    (hk : ∀ (s : Shared) (H : Hp) (C : Addr) (cl : List (Str × Addr)) (fp : List Addr), PE (X.blk s H scope (compEnvC scope cl C X.env) fp) kx tk)
    (he : ∀ (s : Shared) (H : Hp) (C : Addr) (cl : List (Str × Addr)) (fp : List Addr), PE (X.blk s H scope (compEnvC scope cl C X.env) fp) vx tv) (hs : ∀ x, foldedSetIterable iter X.env x = pure x := by intro _; rfl) :
    PE X (.DictComp kx vx [⟨tg, iter, [], 0⟩] scope pos) (tDcT wi g tk tv (own.map (·.2))) := by
  refine ⟨fun pins s σ H Q I h => ?_⟩
  rw [arm_eval_DictComp]
  have cells : ∀ y ∈ scope.names, y.2 = .free → ∃ c, X.env.cells.lookup y.1 = some c := fun y hy e => (ok.free y hy e).elim (fun k => I.ok.has _ (.inl k)) fun k => I.ok.has _ (.inr k)
  refine wpAny_comprehension_free (use := _) rfl hs (closure_ok cells) ok.kind (fun y hy e => by rw [ok.uniq y hy, e]) (thn (hi.run pins s σ H _ I h) fun xv s1 hx => thn hx fun itv s2 h2 => ?_)
  obtain ⟨it, fp, tn, J, H2, rfl, I2, T, st2, f2, q⟩ := h2
  refine wpAny_newObj_type (newEnv_comp ?_)
  generalize hD : s2.heap.objs.size = D
  have hDn : H2 D = none := I2.hok.fresh (Nat.le_of_eq hD)
  obtain ⟨W, ⟨m0, w0⟩, turn⟩ := q D hDn
  -- the empty dict stands
  generalize hs3 : ({ s2 with heap := s2.heap.push { cls := .type "dict", data := .dict #[] } } : Shared) = s3
  have h3 : s3.heap = s2.heap.push { cls := .type "dict", data := .dict #[] } := by rw [← hs3]
  have I3 : Inv X pins σ (upd H2 D (.dT [])) s3 := by
    subst hs3
    refine I2.laid (t' := s2.toks) (fun b o e => Heap.get?_push_of_some _ e) (Nat.le_of_eq hD) ?_
    subst hD
    exact dt_empty s2.heap I2.big
  generalize hH3 : upd H2 D (.dT []) = H3 at I3 w0
  have old : ∀ b ∈ fp, b < s2.heap.objs.size := fun b hb => let ⟨_, e, _⟩ := T.obj _ _ st2 b hb; Heap.lt_size e
  have f3 : ∀ b ∈ fp, FpOk X pins H3 b ∧ b < s3.heap.objs.size := fun b hb => by
    have lt := old b hb
    refine ⟨⟨?_, (f2 b hb).2⟩, by rw [h3, Heap.size_push]; exact Nat.lt_succ_of_lt lt⟩
    subst hH3 hD
    rw [upd_ne (Nat.ne_of_lt lt)]
    exact (f2 b hb).1
  have st3 : tn 0 s3.heap := T.keep _ _ _ st2 fun b _ o e => by rw [h3]; exact Heap.get?_push_of_some _ e
  have I4 := block_start I3 ok hN f3
  generalize hcl : cellsFrom (s3.heap.objs.size + 1) scope.names (cloFrom X.env.cells scope.names []) = cl at I4
  have pg := hg s3 H3 s3.heap.objs.size cl fp
  have pk := hk s3 H3 s3.heap.objs.size cl fp
  have pv := he s3 H3 s3.heap.objs.size cl fp
  show codeAny _ _ (.compStart (.DictComp kx vx [⟨tg, iter, [], 0⟩] scope pos) 0 (.ref it) (.ref D) (compEnvC scope cl s3.heap.objs.size X.env)) (compPost (model X.prog X.w) X.A X.xe none (EP X pins σ Q) (.ref D) s3.heap.objs.size) { s3 with heap := pushCells (s3.heap.push { cls := .type "dict", data := .dict #[] }) scope.names }
  generalize hce : compEnvC scope cl s3.heap.objs.size X.env = ce at I4 pg pk pv ⊢
  have cL : ce.locals = s3.heap.objs.size := by subst hce; rfl
  generalize hs4 : ({ s3 with heap := pushCells (s3.heap.push { cls := .type "dict", data := .dict #[] }) scope.names } : Shared) = s4 at I4 ⊢
  have st4 : tn 0 s4.heap := T.keep _ _ _ st3 fun b _ o e => by subst hs4; exact pushCells_keeps _ _ _ _ (Heap.get?_push_of_some _ e)
  have own_ : ∀ {σ' : L2.St} {H' : Hp} {s' : Shared}, Inv (X.blk s3 H3 scope ce fp) [] σ' H' s' → (∀ b ∈ fp, H' b = none) → ∀ b ∈ fp, FpOk (X.blk s3 H3 scope ce fp) [] H' b := fun {σ' H' s'} I' hn b hb =>
    ⟨hn b hb, (I'.ok.exf b hb).1, I'.ok.exfs b hb, .inl hb, fun x c e => (I'.ok.exf b hb).2 x c e, fun p hp => by simp at hp⟩
  have body : codeAny (model X.prog X.w) X.A (.compLoop (.DictComp kx vx [⟨tg, iter, [], 0⟩] scope pos) 0 (.ref it) (.ref D) ce) (compPost (model X.prog X.w) X.A X.xe none (EP X pins σ Q) (.ref D) s3.heap.objs.size) s4 := by
    refine compLoop_anyD (fun n s' => ∃ i H', Inv (X.blk s3 H3 scope ce fp) [] (wipe σ (own.map (·.2))) H' s' ∧ tn i s'.heap ∧ (∀ b ∈ fp, H' b = none) ∧ W i n H') ?_ m0 ⟨0, H3, I4, st4, fun b hb => (f3 b hb).1.1, w0⟩
    rintro n s5 ⟨i, H5, I5, st5, n5, w5⟩
    rcases turn i n H5 w5 with ⟨stop, qq⟩ | ⟨go, Nx, hNx, step⟩
    · refine thnF (T.done (X.blk s3 H3 scope ce fp) rfl rfl rfl hc i [] s5 _ H5 (fun _ _ => False) I5 (own_ I5 n5) st5 stop) fun r s6 ⟨hr, I6⟩ => ?_
      subst hr
      have I7 : Inv X pins σ H5 s6 := I3.call' (ch := fp) I6.os I6.base I6.hok I6.bare fun b hb => ⟨(f3 b hb).1.2.2.2.1, (f3 b hb).1.2.1, (f3 b hb).1.2.2.2.2.1, (f3 b hb).1.2.2.2.2.2⟩
      have nC : H5 s3.heap.objs.size = none := cL ▸ (show H5 ce.locals = none from I6.free)
      obtain ⟨m, hn, _⟩ := I6.loc
      have hn' : s6.heap.Ns s3.heap.objs.size m := cL ▸ (show s6.heap.Ns ce.locals m from hn)
      refine ⟨m, hn', fun h'' sb => ?_⟩
      obtain ⟨b0, b1, b2, b3, b4, b5⟩ := I3.fpOk (Nat.le_refl _) nC
      exact ⟨.ref D, H5, I7.turned (t' := s6.toks) (fun b o hb e => (sb.2 b hb).trans e) b0 b1 b3 b4 b5, rfl, qq⟩
    · refine thnF (T.item (X.blk s3 H3 scope ce fp) rfl rfl rfl hc i [] s5 _ H5 (fun _ _ => False) I5 (own_ I5 n5) st5 go) fun r s6 ⟨u, hr, h6⟩ => ?_
      subst hr
      refine thnF h6 fun _ s7 ⟨x, H7, I7, r7, y7, st7, n7⟩ => ?_
      have I7' := I7.pinned (own_ I7 n7) (T.obj _ _ st7)
      refine thnF (pg.run _ s7 _ H7 x u _ I7' r7 (step x H7 y7)) fun _ s8 ⟨σ8, H8, I8, hw8, q8⟩ => ?_
      have back : ∀ {s' : Shared} {H' : Hp}, Inv (X.blk s3 H3 scope ce fp) ([] ++ pinsAt fp s7.heap) σ8 H' s' → Nx H' → ∃ m, m < n ∧ ∃ i H', Inv (X.blk s3 H3 scope ce fp) [] (wipe σ (own.map (·.2))) H' s' ∧ tn i s'.heap ∧ (∀ b ∈ fp, H' b = none) ∧ W i m H' := fun {s' H'} I' nx => by
        obtain ⟨m', hm, w'⟩ := hNx H' nx
        have kept : ∀ b ∈ fp, ∀ o, s7.heap.get? b = some o → s'.heap.get? b = some o ∧ H' b = none := fun b hb o e => by
          have z := I'.pin (b, o) (List.mem_append_right _ (List.mem_append_right _ (mem_pinsAt hb e)))
          exact ⟨z.1, z.2.1⟩
        refine ⟨m', hm, i + 1, H', (I'.unpinned (pins := [])).weak (by rw [← hw8, wipe_length]) (fun j v e => ?_), T.keep _ _ _ st7 fun b hb o e => (kept b hb o e).1, fun b hb => ?_, w'⟩
        · rw [← hw8] at e
          exact (wipe_some e).1
        · obtain ⟨o, e, _⟩ := T.obj _ _ st7 b hb
          exact (kept b hb o e).2
      refine wpAny_pure ?_
      simp only [if_true]
      refine thnF (pk.run _ s8 σ8 H8 _ I8 q8) fun ku s10 ⟨yk, H10, I10, r10, q10⟩ => ?_
      refine thnF (pv.run _ s10 σ8 H10 _ I10 q10) fun vu s11 ⟨yv, H11, I11, r11, kvs, k, b, ek, hb, hD11, few, nx⟩ => ?_
      subst ek
      cases (show ku = Value.ref b from r10)
      exact set_T (X := X.blk s3 H3 scope ce fp) hu I11 hD11 hb few r11 fun s12 I12 => back I12 nx
  exact codeAny_compStart_dict body (T.self X.A 0 _ _ _ st4 body)
end
end KR
end
section
set_option linter.all false
set_option maxRecDepth 100000
set_option maxHeartbeats 4000000
/-! own rules: dict(pairs), dict(d) where the keys are tuples -/
namespace KR
open PySem PySem.Spec PyProof.Rows L2
theorem stored_nodup {α : Type} [DecidableEq α] : ∀ (ps xs : List (α × Addr × Value)), ((xs ++ ps).map (·.1)).Nodup → storedAllH xs ps = xs ++ ps
  | [], xs, _ => by rw [List.append_nil]; rfl
  | p :: ps, xs, h => by
    have hno : atKey xs p.1 = none := by
      rw [List.map_append, List.nodup_append] at h
      have dis := h.2.2
      cases e : atKey xs p.1 with
      | none => rfl
      | some q =>
        exfalso
        unfold atKey at e
        cases e2 : xs.find? (fun x => decide (x.1 = p.1)) with
        | none =>
          simp_all
        | some z =>
          have hz := List.mem_of_find?_eq_some e2
          have hk := List.find?_some e2
          exact dis z.1 (List.mem_map.mpr ⟨z, hz, rfl⟩) p.1 (by simp) (by simpa using hk)
    show storedAllH (storedH xs p.1 p.2.1 p.2.2) ps = _
    rw [storedH_new hno, stored_nodup ps (xs ++ [(p.1, p.2.1, p.2.2)]) (by simpa using h)]
    simp
/-- one entry of a list of pairs: the pair's address, the key's, the key, the value -/
structure Ent where
  p : Addr
  q : Addr
  k : List L2.Key
  v : V
def rDictT : List V → Hp → VK → Prop := fun xs H Q => ∃ (a : Addr) (es : List Ent), xs = [.ref a] ∧ H a = some (.lst (es.map fun e => V.ref e.p)) ∧ (∀ e ∈ es, H e.p = some (.tup [.ref e.q, e.v]) ∧ H e.q = some (.tup (e.k.map kV))) ∧ (es.map (·.k)).Nodup ∧
  ∀ p, H p = none → Q (.ref p) (upd H p (.dT (es.map fun e => (e.k, e.v))))
section
variable {X : Cx}
theorem ents_of {pins : List (Addr × Obj)} {σ : L2.St} {H : Hp} {s : Shared} (I : Inv X pins σ H s) : ∀ (es : List Ent), (∀ e ∈ es, H e.p = some (.tup [.ref e.q, e.v]) ∧ H e.q = some (.tup (e.k.map kV))) →
    ∃ us : List Value, us.length = es.length ∧ ∀ (j : Nat) (e : Ent) (u : Value), es[j]? = some e → us[j]? = some u → L2.RelV e.v u ∧ PairAt s.heap e.p (.ref e.q) u
  | [], _ => ⟨[], rfl, fun j e u h => by simp at h⟩
  | e :: es, h => by
    obtain ⟨us, hl, hr⟩ := ents_of I es fun e' he => h e' (List.mem_cons_of_mem _ he)
    obtain ⟨h1, _⟩ := h e List.mem_cons_self
    obtain ⟨its, rv, ht, _⟩ := I.tuple (SqT.of (K := X.K) h1)
    obtain ⟨u1, u2, rfl, r1, r2⟩ := vals2 rv
    cases (show u1 = Value.ref e.q from r1)
    refine ⟨u2 :: us, by simp [hl], fun j e' u he hu => ?_⟩
    cases j with
    | zero =>
      cases he
      cases hu
      exact ⟨r2, .inl ht⟩
    | succ j => exact hr j e' u (by simpa using he) (by simpa using hu)
theorem kt_zip {H : Hp} : ∀ (es : List Ent) (vs : List Value), vs.length = es.length → (∀ e ∈ es, H e.q = some (.tup (e.k.map kV))) → (∀ (j : Nat) (e : Ent) (u : Value), es[j]? = some e → vs[j]? = some u → L2.RelV e.v u) →
    KT H (es.map fun e => (e.k, e.v)) ((es.zip vs).map fun ev => (ev.1.k, ev.1.q, ev.2))
  | [], _, _, _, _ => .nil
  | _ :: _, [], hl, _, _ => by simp at hl
  | e :: es, v :: vs, hl, hq, hv => .cons ⟨rfl, hq e List.mem_cons_self, hv 0 e v rfl rfl⟩ (kt_zip es vs (by simpa using hl) (fun e' he => hq e' (List.mem_cons_of_mem _ he)) fun j e' u h1 h2 => hv (j + 1) e' u (by simpa using h1) (by simpa using h2))
theorem call_dictT (hcalm : X.calm = true) (hu : X.A.units + 64 < cLine) : CallR X (.type "dict") rDictT := by
  intro pins s σ H xs us Q I r h
  obtain ⟨a, es, rfl, ha, hes, hnd, q⟩ := h
  obtain ⟨u, rfl, ru⟩ := vals1 r
  cases ru
  obtain ⟨its, rv, pl, hz⟩ := I.list (SqL.of (K := X.K) ha)
  have hz' : es.length ≤ sizeLine := by rw [← List.length_map (as := es) (f := fun e => V.ref e.p)]; exact hz
  have e0 : es.map (fun e => V.ref e.p) = (es.map (·.p)).map V.ref := by rw [List.map_map]; rfl
  rw [e0] at rv
  have ei := refs_at rv
  subst ei
  obtain ⟨vs, hl, hvs⟩ := ents_of I es hes
  generalize hps : (es.zip vs).map (fun ev => ((Value.ref ev.1.q, ev.2) : Value × Value)) = ps
  generalize hts : (es.zip vs).map (fun ev => ((ev.1.k, ev.1.q, ev.2) : List L2.Key × Addr × Value)) = ts
  have lz : (es.zip vs).length = es.length := by rw [List.length_zip, hl, Nat.min_self]
  have lps : ps.length = es.length := by rw [← hps, List.length_map, lz]
  have lts : ts.length = es.length := by rw [← hts, List.length_map, lz]
  have zat : ∀ (j : Nat) (ev : Ent × Value), (es.zip vs)[j]? = some ev → es[j]? = some ev.1 ∧ vs[j]? = some ev.2 := fun j ev h => by
    rw [List.getElem?_zip_eq_some] at h
    exact h
  have keys : ts.map (·.1) = es.map (·.k) := by
    rw [← hts, List.map_map]
    have e1 : es.map (·.k) = ((es.zip vs).map (·.1)).map (·.k) := by rw [List.map_fst_zip (by omega)]
    rw [e1, List.map_map]
    rfl
  have hP := PairArg.list (prog := X.prog) (w := X.w) a (((es.map (·.p)).map Value.ref).toArray) (fun j => (es.map (·.p)).getD j 0) ps
  have okP : PlainSeq "list" s.heap a (((es.map (·.p)).map Value.ref).toArray) ∧ PairItems s.heap (((es.map (·.p)).map Value.ref).toArray) (fun j => (es.map (·.p)).getD j 0) ps := by
    obtain ⟨o, n, ho, hc, hd, hdat⟩ := pl
    refine ⟨⟨o, n, ho, hc, hd, hdat⟩, by simp [lps], fun j k v hj => ?_⟩
    rw [← hps, List.getElem?_map] at hj
    cases hz : (es.zip vs)[j]? with
    | none => rw [hz] at hj; cases hj
    | some ev =>
      rw [hz] at hj
      cases hj
      obtain ⟨h1, h2⟩ := zat j ev hz
      have hp : (es.map (·.p))[j]? = some ev.1.p := by rw [List.getElem?_map, h1]; rfl
      have hg : (es.map (·.p)).getD j 0 = ev.1.p := by rw [List.getD_eq_getElem?_getD, hp]; rfl
      refine ⟨?_, ?_⟩
      · show _ = some (Value.ref ((es.map (·.p)).getD j 0))
        rw [List.getElem?_toArray, List.getElem?_map, hp, hg]
        rfl
      · show PairAt s.heap ((es.map (·.p)).getD j 0) _ _
        rw [hg]
        exact (hvs j _ _ h1 h2).2
  refine call_dict_pairsH (knd := tupleKind (mixKind X.prog X.w)) (ps := ts) hP (I.ok.hd hcalm) (show X.A.units + 1 + 1 < cLine by omega) okP ⟨by rw [lts, lps], fun i key v hrel => ?_⟩ ?_ (by rw [lps]; exact hz') fun h' tk hd' hk => ?_
  · obtain ⟨k0, v0, hr, rfl, rfl⟩ : ∃ k0 v0, ps[i]? = some (k0, v0) ∧ key = k0 ∧ v = v0 := by
      first
        | exact ⟨_, _, hrel, rfl, rfl⟩
    rw [← hps, List.getElem?_map] at hr
    cases hz : (es.zip vs)[i]? with
    | none => rw [hz] at hr; cases hr
    | some ev =>
      rw [hz] at hr
      cases hr
      exact ⟨ev.1.k, ev.1.q, by rw [← hts, List.getElem?_map, hz]; rfl, rfl⟩
  · intro h' hk x hx
    rw [← hts] at hx
    obtain ⟨ev, hev, rfl⟩ := List.mem_map.mp hx
    have hm : ev.1 ∈ es := (List.of_mem_zip hev).1
    obtain ⟨o, its, n, g1, g2, g3, g4⟩ := key_of I.hok (hes _ hm).2
    exact ⟨o, its, n, hk _ o (Nat.ne_of_lt (Heap.lt_size g1)) (by simp) g1, g2, g3, g4⟩
  · have hst : storedAllH [] ts = ts := by
      have := stored_nodup ts [] (by rw [List.nil_append, keys]; exact hnd)
      rwa [List.nil_append] at this
    rw [hst] at hd'
    obtain ⟨o, es', ep, g1, g2, g3, g4, _, g5⟩ := hd'
    have lo : (s.heap.objs.size == sysModules) = false := beq_eq_false_iff_ne.mpr (Nat.ne_of_gt I.big)
    have fr := I.hok.fresh (Nat.le_refl _)
    refine ⟨.ref s.heap.objs.size, upd H s.heap.objs.size (.dT (es.map fun e => (e.k, e.v))), I.laid (t' := tk) (fun b u e => hk b u (by simp) e) (Nat.le_refl _) ?_, rfl, q _ fr⟩
    refine ⟨by rw [List.length_map]; exact hz', lo, ts, ?_, o, es', ep, g1, g2, g3, g4, g5⟩
    have hstay : ∀ b ys, H b = some (.tup ys) → upd H s.heap.objs.size (.dT (es.map fun e => (e.k, e.v))) b = some (.tup ys) := fun b ys e => by
      rw [upd_ne (ne_of_none e fr)]
      exact e
    rw [← hts]
    exact kt_zip es vs hl (fun e he => hstay _ _ (hes e he).2) fun j e u h1 h2 => (hvs j e u h1 h2).1
/-! ### dict(d) -/
/-- a copy; the model asks that the keys' hashes differ -/
def rCopyT (P : Program) (w : World) : List V → Hp → VK → Prop := fun xs H Q => ∃ (d : Addr) (kvs : List (List L2.Key × V)), xs = [.ref d] ∧ L2.Rd H d (.dT kvs) ∧ (kvs.map fun kv => (tupleKind (mixKind P w)).hash kv.1).Nodup ∧ ∀ p, H p = none → Q (.ref p) (upd H p (.dT kvs))
theorem call_dictCopyT (hu : X.A.units + 64 < cLine) : CallR X (.type "dict") (rCopyT X.prog X.w) := by
  intro pins s σ H xs us Q I r h
  obtain ⟨d, kvs, rfl, hd, hnd, q⟩ := h
  obtain ⟨u, rfl, ru⟩ := vals1 r
  cases ru
  obtain ⟨hz, lo, ts, rel, dd⟩ := dt_rd I.hok hd
  have hkeys : kvs.map (·.1) = ts.map (·.1) := by
    clear q hd hnd hz dd
    induction rel with
    | nil => rfl
    | cons h t ih => rw [List.map_cons, List.map_cons, ih, h.1]
  have hl : kvs.length = ts.length := Paired.length rel
  obtain ⟨od, esd, epd, k1, k2, k3, k4, k5, k6⟩ := id dd
  have hnd' : (ts.map fun x => (tupleKind (mixKind X.prog X.w)).hash x.1).Nodup := by
    have e1 : (ts.map fun x => (tupleKind (mixKind X.prog X.w)).hash x.1) = (ts.map (·.1)).map (tupleKind (mixKind X.prog X.w)).hash := by rw [List.map_map]; rfl
    have e2 : (kvs.map fun x => (tupleKind (mixKind X.prog X.w)).hash x.1) = (kvs.map (·.1)).map (tupleKind (mixKind X.prog X.w)).hash := by rw [List.map_map]; rfl
    rw [e1, ← hkeys, ← e2]
    exact hnd
  have new0 : ∀ b o, s.heap.get? b = some o → (s.heap.push { cls := .type "dict", data := .dict #[] }).get? b = some o := fun b o e => Heap.get?_push_of_some _ e
  refine callType_codes (Q₁ := fun obj s₁ => obj = .ref s.heap.objs.size ∧ s₁ = { s with heap := s.heap.push { cls := .type "dict", data := .dict #[] } }) F.kt_called_dict (F.kt_typeCall_dict_1 _) F.entry_dict_init (kt_code_dict_new _ ⟨rfl, rfl⟩) ?_
  rintro obj s₁ ⟨rfl, rfl⟩
  have hT : Shared.TypeIs { s with heap := s.heap.push { cls := .type "dict", data := .dict #[] } } (.ref s.heap.objs.size) "dict" := ⟨_, Heap.get?_push_size _ rfl, rfl⟩
  refine ⟨hT, F.args_dict_init_2 _ _, ?_⟩
  unfold Builtin.«dict.__init__»
  refine wpAny_bind ?_
  unfold Builtin.Dict.selfAndRest
  refine wpAny_bind (wpAny_notOrdered_dict hT ?_)
  show wpAny _ _ (pure (s.heap.objs.size, [Value.ref d])) _ _ _
  refine wpAny_pure ?_
  have hsz : s.heap.objs.size ≠ d := Nat.ne_of_gt (Heap.lt_size k1)
  have ddn : (s.heap.push { cls := .type "dict", data := .dict #[] }).DictOfH (tupleKind (mixKind X.prog X.w)) d ts :=
    ⟨od, esd, epd, new0 _ _ k1, k2, k3, k4, fun x hx => by
      obtain ⟨o, its, n, g1, g2⟩ := k5 x hx
      exact ⟨o, its, n, new0 _ _ g1, g2⟩, k6⟩
  refine updateFrom_dictH (A := X.A.in1) (knd := tupleKind (mixKind X.prog X.w)) (kvs := []) .none (show X.A.units + 1 + 1 < cLine by omega) hsz lo (Heap.DictOfH.new s.heap) ddn (.inr ⟨fun x hx => ?_, hnd'⟩) (by simp; omega) fun h' hd' _ same => ?_
  · obtain ⟨o, its, n, g1, g2, _⟩ := k5 x hx
    exact ⟨o, new0 _ _ g1, g2⟩
  · have hst : storedAllH [] ts = ts := by
      have := stored_nodup ts [] (by rw [List.nil_append]; exact k6)
      rwa [List.nil_append] at this
    rw [hst] at hd'
    obtain ⟨o, es', ep, g1, g2, g3, g4, _, g5⟩ := hd'
    have lon : (s.heap.objs.size == sysModules) = false := beq_eq_false_iff_ne.mpr (Nat.ne_of_gt I.big)
    have fr := I.hok.fresh (Nat.le_refl _)
    refine ⟨rfl, .ref s.heap.objs.size, upd H s.heap.objs.size (.dT kvs), I.laid (t' := s.toks) (fun b u e => (same.2 b (Nat.ne_of_lt (Heap.lt_size e))).trans (new0 _ _ e)) (Nat.le_refl _) ?_, rfl, q _ fr⟩
    exact ⟨hz, lon, ts, rel.keeps fun b ys e => by
      rw [upd_ne (ne_of_none e fr)]
      exact e, o, es', ep, g1, g2, g3, g4, g5⟩
end
end KR
end
section
/-! rows of small numbers have hashes of their own -/
namespace HA
def M : Nat := 18446744073709551616
def P1 : Nat := 11400714785074694791
def P2 : Nat := 14029467366897019727
def P5 : Nat := 2870177450012600261
def rot (a : Nat) : Nat := (a * 2147483648) % M + a / 8589934592
def stp (acc x : Nat) : Nat := (rot ((acc + x * P2) % M) * P1) % M
def P2i : Nat := 839798700976720815
def P1i : Nat := 614540362697595703
def bOf (a : Nat) : Nat := (a * P2i) % M
def mrg : Nat → List Nat → List Nat → List Nat
  | 0, a, b => a ++ b
  | _ + 1, [], b => b
  | _ + 1, a, [] => a
  | n + 1, x :: a, y :: b => cond (Nat.ble x y) (x :: mrg n a (y :: b)) (y :: mrg n (x :: a) b)
def srt : Nat → Nat → List Nat
  | 0, a => [bOf a]
  | n + 1, a => mrg 10000 (mrg 10000 (mrg 10000 (mrg 10000 (srt n (stp a 0)) (srt n (stp a 1))) (mrg 10000 (srt n (stp a 2)) (srt n (stp a 3)))) (mrg 10000 (mrg 10000 (srt n (stp a 4)) (srt n (stp a 5))) (mrg 10000 (srt n (stp a 6)) (srt n (stp a 7))))) (srt n (stp a 8))
/-- rising by nine and more, from p up to M, none of them up to eight below t -/
def chk (t : Nat) : Nat → List Nat → Bool
  | p, [] => Nat.ble (p + 9) M
  | p, x :: l => (Nat.ble (p + 9) x && (Nat.ble (t + 1) x || Nat.ble (x + 9) t)) && chk t x l
theorem mem_mrg {z : Nat} : ∀ (n : Nat) {a b : List Nat}, z ∈ a ∨ z ∈ b → z ∈ mrg n a b
  | 0, a, b, h => List.mem_append.mpr h
  | _ + 1, [], b, h => h.elim (fun q => by cases q) id
  | _ + 1, x :: a, [], h => h.elim id (fun q => by cases q)
  | n + 1, x :: a, y :: b, h => by
    show z ∈ cond (Nat.ble x y) (x :: mrg n a (y :: b)) (y :: mrg n (x :: a) b)
    cases Nat.ble x y with
    | true =>
      show z ∈ x :: mrg n a (y :: b)
      rcases h with h | h
      · rcases List.mem_cons.mp h with rfl | h
        · exact List.mem_cons_self
        · exact List.mem_cons_of_mem _ (mem_mrg n (.inl h))
      · exact List.mem_cons_of_mem _ (mem_mrg n (.inr h))
    | false =>
      show z ∈ y :: mrg n (x :: a) b
      rcases h with h | h
      · exact List.mem_cons_of_mem _ (mem_mrg n (.inl h))
      · rcases List.mem_cons.mp h with rfl | h
        · exact List.mem_cons_self
        · exact List.mem_cons_of_mem _ (mem_mrg n (.inr h))
theorem mem_srt {z : Nat} (n a x : Nat) (hx : x < 9) (h : z ∈ srt n (stp a x)) : z ∈ srt (n + 1) a := by
  show z ∈ mrg 10000 _ _
  rcases (show x = 0 ∨ x = 1 ∨ x = 2 ∨ x = 3 ∨ x = 4 ∨ x = 5 ∨ x = 6 ∨ x = 7 ∨ x = 8 by omega) with q | q | q | q | q | q | q | q | q
  all_goals subst q
  · exact mem_mrg _ (.inl (mem_mrg _ (.inl (mem_mrg _ (.inl (mem_mrg _ (.inl h)))))))
  · exact mem_mrg _ (.inl (mem_mrg _ (.inl (mem_mrg _ (.inl (mem_mrg _ (.inr h)))))))
  · exact mem_mrg _ (.inl (mem_mrg _ (.inl (mem_mrg _ (.inr (mem_mrg _ (.inl h)))))))
  · exact mem_mrg _ (.inl (mem_mrg _ (.inl (mem_mrg _ (.inr (mem_mrg _ (.inr h)))))))
  · exact mem_mrg _ (.inl (mem_mrg _ (.inr (mem_mrg _ (.inl (mem_mrg _ (.inl h)))))))
  · exact mem_mrg _ (.inl (mem_mrg _ (.inr (mem_mrg _ (.inl (mem_mrg _ (.inr h)))))))
  · exact mem_mrg _ (.inl (mem_mrg _ (.inr (mem_mrg _ (.inr (mem_mrg _ (.inl h)))))))
  · exact mem_mrg _ (.inl (mem_mrg _ (.inr (mem_mrg _ (.inr (mem_mrg _ (.inr h)))))))
  · exact mem_mrg _ (.inr h)
theorem mem_all : ∀ (r : List Nat) (a : Nat), (∀ x ∈ r, x < 9) → bOf (r.foldl stp a) ∈ srt r.length a
  | [], a, _ => List.mem_singleton.mpr rfl
  | x :: r, a, h => mem_srt r.length a x (h x List.mem_cons_self) (mem_all r (stp a x) fun y hy => h y (List.mem_cons_of_mem _ hy))
theorem chk_le {t : Nat} : ∀ {p : Nat} {l : List Nat}, chk t p l = true → (p + 9 ≤ M) ∧ ∀ x ∈ l, p + 9 ≤ x ∧ x + 9 ≤ M ∧ (t < x ∨ x + 9 ≤ t)
  | p, [], h => ⟨Nat.le_of_ble_eq_true h, fun x hx => by cases hx⟩
  | p, x :: l, h => by
    simp only [chk, Bool.and_eq_true, Bool.or_eq_true] at h
    obtain ⟨⟨h1, h2⟩, h3⟩ := h
    have h1 := Nat.le_of_ble_eq_true h1
    obtain ⟨a, b⟩ := chk_le h3
    refine ⟨by omega, fun y hy => ?_⟩
    rcases List.mem_cons.mp hy with rfl | hy
    · refine ⟨h1, a, ?_⟩
      rcases h2 with h2 | h2
      · exact .inl (Nat.le_of_ble_eq_true h2)
      · exact .inr (Nat.le_of_ble_eq_true h2)
    · obtain ⟨c1, c2, c3⟩ := b y hy
      exact ⟨by omega, c2, c3⟩
theorem chk_apart {t : Nat} : ∀ {p : Nat} {l : List Nat}, chk t p l = true → ∀ x ∈ l, ∀ y ∈ l, x = y ∨ x + 9 ≤ y ∨ y + 9 ≤ x
  | _, [], _, x, hx, _, _ => by cases hx
  | p, z :: l, h, x, hx, y, hy => by
    simp only [chk, Bool.and_eq_true, Bool.or_eq_true] at h
    obtain ⟨_, h3⟩ := h
    obtain ⟨_, b⟩ := chk_le h3
    rcases List.mem_cons.mp hx with e1 | m1
    · rcases List.mem_cons.mp hy with e2 | m2
      · exact .inl (e1.trans e2.symm)
      · exact .inr (.inl (e1 ▸ (b y m2).1))
    · rcases List.mem_cons.mp hy with e2 | m2
      · exact .inr (.inr (e2 ▸ (b x m1).1))
      · exact chk_apart h3 x m1 y m2
theorem mul_inj {u v p q : Nat} (hp : (p * q) % M = 1) (h : (u * p) % M = (v * p) % M) : u % M = v % M := by
  have e : ∀ u : Nat, ((u * p) % M * q) % M = u % M := fun u => by
    rw [Nat.mod_mul_mod, Nat.mul_assoc, Nat.mul_mod, hp, Nat.mul_one, Nat.mod_mod]
  rw [← e u, ← e v, h]
theorem rot_eq (a : Nat) : rot a = (a % 8589934592) * 2147483648 + a / 8589934592 := by
  have e : (a * 2147483648) % (8589934592 * 2147483648) = (a % 8589934592) * 2147483648 := Nat.mul_mod_mul_right 2147483648 a 8589934592
  have m : M = 8589934592 * 2147483648 := by decide
  unfold rot
  rw [m, e]
theorem hi_lt {a : Nat} (ha : a < M) : a / 8589934592 < 2147483648 := Nat.div_lt_of_lt_mul ha
theorem two_eq {x y u v : Nat} (hx : u < 2147483648) (hy : v < 2147483648) (h : x * 2147483648 + u = y * 2147483648 + v) : x = y ∧ u = v := by omega
theorem rot_inj {a b : Nat} (ha : a < M) (hb : b < M) (h : rot a = rot b) : a = b := by
  rw [rot_eq, rot_eq] at h
  obtain ⟨e1, e2⟩ := two_eq (hi_lt ha) (hi_lt hb) h
  rw [← Nat.div_add_mod a 8589934592, ← Nat.div_add_mod b 8589934592, e1, e2]
theorem rot_lt {a : Nat} (ha : a < M) : rot a < M := by
  rw [rot_eq]
  have h1 : a % 8589934592 < 8589934592 := Nat.mod_lt _ (by decide)
  have h2 := hi_lt ha
  show _ < 18446744073709551616
  generalize a % 8589934592 = x at *
  generalize a / 8589934592 = y at *
  omega
theorem M_pos : 0 < M := by decide
theorem stp_lt (a x : Nat) : stp a x < M := Nat.mod_lt _ M_pos
theorem acc_lt {a : Nat} (ha : a < M) : ∀ r : List Nat, r.foldl stp a < M := by
  intro r
  induction r generalizing a with
  | nil => exact ha
  | cons x r ih => exact ih (stp_lt a x)
theorem bOf_add (a x : Nat) : (((a + x * P2) % M) * P2i) % M = (bOf a + x) % M := by
  have e : (P2 * P2i) % M = 1 := by decide
  unfold bOf
  rw [Nat.mod_mul_mod, Nat.add_mul, Nat.mul_assoc, Nat.add_mod, Nat.mul_mod x, e, Nat.mul_one, Nat.mod_mod]
  conv => rhs; rw [Nat.add_mod, Nat.mod_mod]
theorem stp_in {a x b y : Nat} (h : stp a x = stp b y) : (a + x * P2) % M = (b + y * P2) % M := by
  have h1 := mul_inj (p := P1) (q := P1i) (by decide) h
  have l1 : (a + x * P2) % M < M := Nat.mod_lt _ M_pos
  have l2 : (b + y * P2) % M < M := Nat.mod_lt _ M_pos
  rw [Nat.mod_eq_of_lt (rot_lt l1), Nat.mod_eq_of_lt (rot_lt l2)] at h1
  exact rot_inj l1 l2 h1
theorem bOf_inj {a b : Nat} (ha : a < M) (hb : b < M) (h : bOf a = bOf b) : a = b := by
  have := mul_inj (p := P2i) (q := P2) (by decide) h
  rwa [Nat.mod_eq_of_lt ha, Nat.mod_eq_of_lt hb] at this
/-- one more number: told apart -/
theorem step_apart {t : Nat} {l : List Nat} (hl : chk t 0 l = true) {a b x y : Nat} (ha : a < M) (hb : b < M) (ma : bOf a ∈ l) (mb : bOf b ∈ l) (hx : x < 9) (hy : y < 9) (h : stp a x = stp b y) : a = b ∧ x = y := by
  have e := stp_in h
  have e2 : (bOf a + x) % M = (bOf b + y) % M := by rw [← bOf_add, ← bOf_add, e]
  have c1 := (chk_le hl).2 _ ma
  have c2 := (chk_le hl).2 _ mb
  rw [Nat.mod_eq_of_lt (by omega), Nat.mod_eq_of_lt (by omega)] at e2
  have ap := chk_apart hl _ ma _ mb
  have eb : bOf a = bOf b := by omega
  exact ⟨bOf_inj ha hb eb, by omega⟩
/-- one more number: it misses the one value that is changed -/
theorem step_miss {t u : Nat} {l : List Nat} (hl : chk t 0 l = true) (hu : u < M) (ht : (u * P2i) % M = t) {a x : Nat} (ma : bOf a ∈ l) (hx : x < 9) : stp a x ≠ (rot u * P1) % M := by
  intro h
  have h1 := mul_inj (p := P1) (q := P1i) (by decide) h
  have l1 : (a + x * P2) % M < M := Nat.mod_lt _ M_pos
  rw [Nat.mod_eq_of_lt (rot_lt l1), Nat.mod_eq_of_lt (rot_lt hu)] at h1
  have e := rot_inj l1 hu h1
  have e2 : (bOf a + x) % M = t := by rw [← bOf_add, e, ht]
  have c1 := (chk_le hl).2 _ ma
  rw [Nat.mod_eq_of_lt (by omega)] at e2
  omega
/-- the added number by the length; the value before the last step that would give M - 1 -/
def cst (n : Nat) : Nat := n ^^^ (P5 ^^^ 3527539)
def unrot (r : Nat) : Nat := (r % 2147483648) * 8589934592 + r / 2147483648
def uOf (n : Nat) : Nat := unrot ((((M + M - 1) - cst n % M) % M * P1i) % M)
def tOf (n : Nat) : Nat := (uOf n * P2i) % M
theorem ok0 : chk (tOf 1) 0 (srt 0 P5) = true := by decide +kernel
theorem ok1 : chk (tOf 2) 0 (srt 1 P5) = true := by decide +kernel
theorem ok2 : chk (tOf 3) 0 (srt 2 P5) = true := by decide +kernel
theorem ok3 : chk (tOf 4) 0 (srt 3 P5) = true := by decide +kernel
theorem ok4 : chk (tOf 5) 0 (srt 4 P5) = true := by decide +kernel
theorem ok_n (n : Nat) (h : n ≤ 4) : chk (tOf (n + 1)) 0 (srt n P5) = true := by
  rcases (show n = 0 ∨ n = 1 ∨ n = 2 ∨ n = 3 ∨ n = 4 by omega) with q | q | q | q | q
  all_goals subst q
  · exact ok0
  · exact ok1
  · exact ok2
  · exact ok3
  · exact ok4
theorem u_n (n : Nat) (h : n ≤ 4) : uOf (n + 1) < M ∧ ((rot (uOf (n + 1)) * P1) % M + cst (n + 1)) % M = M - 1 := by
  rcases (show n = 0 ∨ n = 1 ∨ n = 2 ∨ n = 3 ∨ n = 4 by omega) with q | q | q | q | q
  all_goals subst q
  all_goals decide +kernel
theorem P5_lt : P5 < M := by decide
def acc (r : List Nat) : Nat := r.foldl stp P5
theorem acc_snoc (r : List Nat) (x : Nat) : acc (r ++ [x]) = stp (acc r) x := by
  unfold acc
  rw [List.foldl_append, List.foldl_cons, List.foldl_nil]
theorem acc_in {r : List Nat} (h : ∀ x ∈ r, x < 9) : bOf (acc r) ∈ srt r.length P5 := mem_all r P5 h
theorem acc_M (r : List Nat) : acc r < M := acc_lt P5_lt r
theorem add_cancel {a b c : Nat} (ha : a < M) (hb : b < M) (h : (a + c) % M = (b + c) % M) : a = b := by
  have e : ∀ x, x < M → ((x + c) % M + (M - c % M)) % M = x := fun x hx => by
    rw [Nat.mod_add_mod]
    have hc : c = M * (c / M) + c % M := (Nat.div_add_mod c M).symm
    have hl : c % M < M := Nat.mod_lt _ M_pos
    generalize c % M = d at *
    generalize c / M = q at *
    have : x + c + (M - d) = x + M * (q + 1) := by
      rw [hc, Nat.mul_add, Nat.mul_one]
      omega
    rw [this, Nat.add_mul_mod_self_left, Nat.mod_eq_of_lt hx]
  rw [← e a ha, ← e b hb, h]
theorem acc_inj : ∀ (n : Nat), n ≤ 5 → ∀ (r s : List Nat), r.length = n → s.length = n → (∀ x ∈ r, x < 9) → (∀ x ∈ s, x < 9) → acc r = acc s → r = s
  | 0, _, r, s, h1, h2, _, _, _ => by rw [List.eq_nil_of_length_eq_zero h1, List.eq_nil_of_length_eq_zero h2]
  | n + 1, hn, r, s, h1, h2, b1, b2, e => by
    obtain ⟨r', x, rfl⟩ : ∃ r' x, r = r' ++ [x] := ⟨r.dropLast, r.getLast (by intro z; rw [z] at h1; cases h1), (List.dropLast_concat_getLast _).symm⟩
    obtain ⟨s', y, rfl⟩ : ∃ s' y, s = s' ++ [y] := ⟨s.dropLast, s.getLast (by intro z; rw [z] at h2; cases h2), (List.dropLast_concat_getLast _).symm⟩
    rw [List.length_append, List.length_singleton] at h1 h2
    have b1' : ∀ x ∈ r', x < 9 := fun z hz => b1 z (List.mem_append_left _ hz)
    have b2' : ∀ x ∈ s', x < 9 := fun z hz => b2 z (List.mem_append_left _ hz)
    rw [acc_snoc, acc_snoc] at e
    have l1 : r'.length = n := Nat.succ.inj h1
    have l2 : s'.length = n := Nat.succ.inj h2
    have m1 := acc_in b1'
    have m2 := acc_in b2'
    rw [l1] at m1
    rw [l2] at m2
    obtain ⟨ea, exy⟩ := step_apart (ok_n n (Nat.le_of_succ_le_succ hn)) (acc_M r') (acc_M s') m1 m2 (b1 x (by simp)) (b2 y (by simp)) e
    rw [acc_inj n (Nat.le_of_succ_le hn) r' s' l1 l2 b1' b2' ea, exy]
theorem acc_miss {r : List Nat} (h0 : r ≠ []) (h5 : r.length ≤ 5) (b : ∀ x ∈ r, x < 9) : (acc r + cst r.length) % M ≠ M - 1 := by
  obtain ⟨r', x, rfl⟩ : ∃ r' x, r = r' ++ [x] := ⟨r.dropLast, r.getLast h0, (List.dropLast_concat_getLast _).symm⟩
  rw [List.length_append, List.length_singleton] at h5 ⊢
  have b' : ∀ x ∈ r', x < 9 := fun z hz => b z (List.mem_append_left _ hz)
  have hn : r'.length ≤ 4 := Nat.le_of_succ_le_succ h5
  obtain ⟨u1, u2⟩ := u_n r'.length hn
  have ms := step_miss (ok_n r'.length hn) u1 rfl (acc_in b') (b x (by simp))
  rw [acc_snoc]
  intro e
  exact ms (add_cancel (stp_lt _ _) (Nat.mod_lt _ M_pos) (e.trans u2.symm))
end HA
end
section
set_option linter.all false
set_option maxRecDepth 100000
set_option maxHeartbeats 4000000
namespace KR
open PySem PySem.Spec PyProof.Rows L2
theorem int_hash (w : World) (n : Nat) (h : n < 9) : L2.keyH w (Sum.inl (n : Int)) = (n : Int) := by
  rcases (show n = 0 ∨ n = 1 ∨ n = 2 ∨ n = 3 ∨ n = 4 ∨ n = 5 ∨ n = 6 ∨ n = 7 ∨ n = 8 by omega) with q | q | q | q | q | q | q | q | q
  all_goals subst q
  all_goals rfl
theorem fold_acc : ∀ (r : List Nat) (a : Nat), (∀ x ∈ r, x < 9) →
    (r.map fun n : Nat => (n : Int)).foldl (fun acc h => ((((acc + (h % ((2 ^ 64 : Nat) : Int)).toNat * 14029467366897019727) % 2 ^ 64 * 2 ^ 31) % 2 ^ 64 + ((acc + (h % ((2 ^ 64 : Nat) : Int)).toNat * 14029467366897019727) % 2 ^ 64) / 2 ^ 33) * 11400714785074694791) % 2 ^ 64) a = r.foldl HA.stp a
  | [], _, _ => rfl
  | x :: r, a, h => by
    have hx := h x List.mem_cons_self
    rw [List.map_cons, List.foldl_cons, List.foldl_cons]
    have e : (((x : Nat) : Int) % ((2 ^ 64 : Nat) : Int)).toNat = x := by
      have : ((2 ^ 64 : Nat) : Int) = 18446744073709551616 := by decide
      rw [this]
      omega
    rw [e]
    exact fold_acc r _ fun y hy => h y (List.mem_cons_of_mem _ hy)
/-- the signed form of a 64-bit number -/
def sg (a : Nat) : Int := if a < 9223372036854775808 then (a : Int) else (a : Int) - 18446744073709551616
theorem sg_inj {a b : Nat} (ha : a < HA.M) (hb : b < HA.M) (h : sg a = sg b) : a = b := by
  have ha' : a < 18446744073709551616 := ha
  have hb' : b < 18446744073709551616 := hb
  unfold sg at h
  split at h
  · split at h <;> omega
  · split at h <;> omega
theorem red_sg {a : Nat} (ha : a < HA.M) (hn : a ≠ HA.M - 1) : reduceHash (sg a) = sg a := by
  have ha' : a < 18446744073709551616 := ha
  have hn' : a ≠ 18446744073709551615 := hn
  have h1 : -9223372036854775808 ≤ sg a ∧ sg a < 9223372036854775808 ∧ sg a ≠ -1 := by
    unfold sg
    split <;> omega
  obtain ⟨x1, x2, x3⟩ := h1
  unfold reduceHash
  have c1 : (decide (-(2 ^ 63 : Int) ≤ sg a) && decide (sg a < 2 ^ 63)) = true := by
    have e : (2 ^ 63 : Int) = 9223372036854775808 := by decide
    rw [e, Bool.and_eq_true]
    exact ⟨decide_eq_true x1, decide_eq_true x2⟩
  rw [if_pos c1, if_neg (by simpa using x3)]
theorem tup_hash (r : List Nat) (h : ∀ x ∈ r, x < 9) (hn : (HA.acc r + HA.cst r.length) % HA.M ≠ HA.M - 1) : Builtin.Tuple.tupleHashOf (r.map fun n : Nat => (n : Int)) = sg ((HA.acc r + HA.cst r.length) % HA.M) := by
  have f := fold_acc r 2870177450012600261 h
  have e : Builtin.Tuple.tupleHashOf (r.map fun n : Nat => (n : Int)) = (if ((r.foldl HA.stp 2870177450012600261 + ((r.map fun n : Nat => (n : Int)).length ^^^ (2870177450012600261 ^^^ 3527539))) % 2 ^ 64 == 2 ^ 64 - 1) = true then (1546275796 : Int) else if (r.foldl HA.stp 2870177450012600261 + ((r.map fun n : Nat => (n : Int)).length ^^^ (2870177450012600261 ^^^ 3527539))) % 2 ^ 64 < 2 ^ 63 then (((r.foldl HA.stp 2870177450012600261 + ((r.map fun n : Nat => (n : Int)).length ^^^ (2870177450012600261 ^^^ 3527539))) % 2 ^ 64 : Nat) : Int) else (((r.foldl HA.stp 2870177450012600261 + ((r.map fun n : Nat => (n : Int)).length ^^^ (2870177450012600261 ^^^ 3527539))) % 2 ^ 64 : Nat) : Int) - ((2 ^ 64 : Nat) : Int)) := by
    rw [← f]
    rfl
  rw [e, List.length_map]
  have e2 : (r.foldl HA.stp 2870177450012600261 + (r.length ^^^ (2870177450012600261 ^^^ 3527539))) % 2 ^ 64 = (HA.acc r + HA.cst r.length) % HA.M := rfl
  rw [e2]
  generalize (HA.acc r + HA.cst r.length) % HA.M = A at *
  have hA : ¬ (A == 2 ^ 64 - 1) = true := by
    intro z
    have z' : A = 18446744073709551615 := by simpa using z
    exact hn z'
  rw [if_neg hA]
  unfold sg
  have e3 : (2 : Nat) ^ 63 = 9223372036854775808 := by decide
  have e4 : (((2 : Nat) ^ 64 : Nat) : Int) = 18446744073709551616 := by decide
  rw [e3, e4]
theorem hash_inj {P : Program} {w : World} {n : Nat} (hn : n ≤ 5) {r s : List Nat} (lr : r.length = n) (ls : s.length = n) (br : ∀ x ∈ r, x < 9) (bs : ∀ x ∈ s, x < 9)
    (h : (tupleKind (mixKind P w)).hash (keyN r) = (tupleKind (mixKind P w)).hash (keyN s)) : r = s := by
  by_cases hr : r = []
  · subst hr
    rw [← lr] at ls
    exact (List.eq_nil_of_length_eq_zero ls).symm
  · have hs : s ≠ [] := fun z => by
      rw [z] at ls
      rw [← ls] at lr
      exact hr (List.eq_nil_of_length_eq_zero lr)
    have form : ∀ t : List Nat, t ≠ [] → t.length = n → (∀ x ∈ t, x < 9) → (tupleKind (mixKind P w)).hash (keyN t) = sg ((HA.acc t + HA.cst t.length) % HA.M) := fun t t0 tl tb => by
      have ms := HA.acc_miss t0 (by rw [tl]; exact hn) tb
      have e : (keyN t).map (mixKind P w).hash = t.map fun n : Nat => (n : Int) := by
        unfold keyN
        rw [List.map_map]
        exact List.map_congr_left fun x hx => int_hash w x (tb x hx)
      show reduceHash (Builtin.Tuple.tupleHashOf ((keyN t).map (mixKind P w).hash)) = _
      rw [e, tup_hash t tb ms, red_sg (Nat.mod_lt _ HA.M_pos) ms]
    rw [form r hr lr br, form s hs ls bs] at h
    have e := sg_inj (Nat.mod_lt _ HA.M_pos) (Nat.mod_lt _ HA.M_pos) h
    rw [lr, ls] at e
    exact HA.acc_inj n hn r s lr ls br bs (HA.add_cancel (HA.acc_M r) (HA.acc_M s) e)
end KR
end
section
set_option linter.all false
set_option maxRecDepth 100000
set_option maxHeartbeats 4000000
namespace K49
open PySem PySem.Spec PyProof.Rows L2 KR KD
/-! ### a thing that changes no more: locked where it stands -/
def tFrz (t : TE) : TE := fun σ H R => t σ H fun v H1 => ∃ d u, v = .ref d ∧ H1 d = some u ∧ Mut (some u) ∧ ∀ o, R v (upd H1 d (.frz o u))
theorem pe_frz {X : Cx} {e : Expr} {t : TE} (h : PE X e t) : PE X e (tFrz t) := by
  refine ⟨fun pins s σ H R I hw => ?_⟩
  refine thn (h.run pins s σ H _ I hw) fun v s1 hv => ?_
  obtain ⟨x, H1, I1, r, d, u, rfl, hd, mu, q⟩ := hv
  obtain ⟨o, I2⟩ := I1.lock hd mu
  exact ⟨_, _, I2, r, q o⟩
/-! ### dicts: keys rows of numbers, values numbers; keys numbers -/
def dEnc (kvs : List (List Nat × Nat)) : List (List L2.Key × V) := kvs.map fun p => (keyN p.1, .int (p.2 : Nat))
def iEnc (kvs : List (Nat × Nat)) : List (L2.Key × V) := kvs.map fun p => (Sum.inl (p.1 : Int), .int (p.2 : Nat))
theorem rd_up {S S' : Hp} {a : Addr} {u : HO} (e : Same S S') (h : L2.Rd S a u) : L2.Rd S' a u := by
  rcases h with h | ⟨o, h⟩
  · exact .inl (e _ _ h)
  · exact .inr ⟨o, e _ _ h⟩
def DctT (kvs : List (List Nat × Nat)) : KD.Ty := ⟨fun S v => ∃ d, v = .ref d ∧ L2.Rd S d (.dT (dEnc kvs)), fun e ⟨d, h1, h2⟩ => ⟨d, h1, rd_up e h2⟩⟩
def DciT (kvs : List (Nat × Nat)) : KD.Ty := ⟨fun S v => ∃ d, v = .ref d ∧ L2.Rd S d (.dK (iEnc kvs)), fun e ⟨d, h1, h2⟩ => ⟨d, h1, rd_up e h2⟩⟩
/-- one that is locked -/
def DctF (kvs : List (List Nat × Nat)) : KD.Ty := ⟨fun S v => ∃ d o, v = .ref d ∧ S d = some (.frz o (.dT (dEnc kvs))), fun e ⟨d, o, h1, h2⟩ => ⟨d, o, h1, e _ _ h2⟩⟩
theorem DctF.t {S : Hp} {v : V} {kvs : List (List Nat × Nat)} (h : (DctF kvs).ok S v) : (DctT kvs).ok S v := by
  obtain ⟨d, o, h1, h2⟩ := h
  exact ⟨d, h1, .inr ⟨o, h2⟩⟩
def lk {α : Type} [DecidableEq α] (kvs : List (α × Nat)) (k : α) : Option Nat := (kvs.find? fun p => decide (p.1 = k)).map (·.2)
theorem lk_cons {α : Type} [DecidableEq α] (p : α × Nat) (kvs : List (α × Nat)) (k : α) : lk (p :: kvs) k = if p.1 = k then some p.2 else lk kvs k := by
  unfold lk
  rw [List.find?_cons]
  by_cases h : p.1 = k
  · simp [h]
  · simp [h]
theorem val_dEnc : ∀ (kvs : List (List Nat × Nat)) (r : List Nat), valV (dEnc kvs) (keyN r) = (lk kvs r).map fun a : Nat => V.int (a : Nat)
  | [], _ => rfl
  | p :: kvs, r => by
    rw [lk_cons]
    show valV ((keyN p.1, V.int (p.2 : Nat)) :: dEnc kvs) (keyN r) = _
    by_cases h : p.1 = r
    · rw [valV_pos (by rw [h]), if_pos h]
      rfl
    · rw [valV_neg (fun z => h (keyN_inj z)), if_neg h]
      exact val_dEnc kvs r
theorem val_iEnc : ∀ (kvs : List (Nat × Nat)) (r : Nat), valV (iEnc kvs) (Sum.inl (r : Int)) = (lk kvs r).map fun a : Nat => V.int (a : Nat)
  | [], _ => rfl
  | p :: kvs, r => by
    rw [lk_cons]
    show valV ((Sum.inl (p.1 : Int), V.int (p.2 : Nat)) :: iEnc kvs) (Sum.inl (r : Int)) = _
    by_cases h : p.1 = r
    · rw [valV_pos (by rw [h]), if_pos h]
      rfl
    · have h' : ¬ ((Sum.inl (p.1 : Int) : L2.Key) = Sum.inl (r : Int)) := fun z => h (by
        injection z with z
        omega)
      rw [valV_neg h', if_neg h]
      exact val_iEnc kvs r
theorem put_dEnc_new {kvs : List (List Nat × Nat)} {r : List Nat} {a : Nat} (h : lk kvs r = none) : putK (dEnc kvs) (keyN r) (.int (a : Nat)) = dEnc (kvs ++ [(r, a)]) := by
  rw [putK_new _ (by rw [val_dEnc, h]; rfl)]
  unfold dEnc
  rw [List.map_append]
  rfl
theorem put_dEnc_old {kvs : List (List Nat × Nat)} {r : List Nat} {a : Nat} (h : ∀ q ∈ kvs, q.1 = r → q.2 = a) (hs : lk kvs r ≠ none) : putK (dEnc kvs) (keyN r) (.int (a : Nat)) = dEnc kvs := by
  unfold putK
  have hsome : ((dEnc kvs).any fun kv => decide (kv.1 = keyN r)) = true := by
    rw [valV_any, val_dEnc]
    cases e : lk kvs r with
    | none => exact absurd e hs
    | some x => rfl
  rw [if_pos hsome]
  have : ∀ kv ∈ dEnc kvs, (if kv.1 = keyN r then (kv.1, V.int (a : Nat)) else kv) = kv := fun kv hkv => by
    obtain ⟨q, hq, rfl⟩ := List.mem_map.mp hkv
    by_cases e : keyN q.1 = keyN r
    · rw [if_pos e, h q hq (keyN_inj e)]
    · rw [if_neg e]
  rw [List.map_congr_left this, List.map_id']
variable {md : Md} {S H S' H' S1 H1 S0 H0 : Hp} {K : PySem.W.Frag} {σ : L2.St} {ta tb te td tx : TE} {t u : TT} {P P1 P2 P3 : KD.Ty} {D' : Ends} {tu tw tz : TS} {g : TG}
/-- a row is a key -/
theorem row_key {r : List Nat} {v : V} (h : (D (tI r)).ok S v) : ∃ b, v = .ref b ∧ S b = some (.tup ((keyN r).map kV)) := by
  obtain ⟨b, vs, rfl, e1, e2⟩ := D_tup.1 h
  refine ⟨b, rfl, ?_⟩
  have := nats_of (KD.All.toD e2)
  rw [keyN_kV, ← this]
  exact e1
theorem ev_dget {kvs : List (List Nat × Nat)} {r : List Nat} {a : Nat} (h1 : Ev md S td σ (DctT kvs)) (h2 : Ev md S te σ (D (tI r))) (hl : lk kvs r = some a) : Ev md S (tDGet td te) σ (D (nI a)) := fun S1 H R e o k =>
  h1 S1 H _ e o fun x S2 H2 g2 hx => h2 S2 H2 _ (e.trans g2.st) g2.k fun y S3 H3 g3 hy => by
    obtain ⟨d, rfl, hd⟩ := hx
    obtain ⟨b, rfl, hb⟩ := row_key hy
    exact ⟨d, .int (a : Nat), rfl, .inr ⟨_, _, b, rd_up (g3.st.trans g3.k.le) hd, rfl, g3.k.le _ _ hb, by rw [val_dEnc, hl]; rfl⟩, k _ S3 H3 (g2.trans g3) (Dd.int _)⟩
theorem ev_dgetI {kvs : List (Nat × Nat)} {r : Nat} {a : Nat} (h1 : Ev md S td σ (DciT kvs)) (h2 : Ev md S te σ (D (nI r))) (hl : lk kvs r = some a) : Ev md S (tDGet td te) σ (D (nI a)) := fun S1 H R e o k =>
  h1 S1 H _ e o fun x S2 H2 g2 hx => h2 S2 H2 _ (e.trans g2.st) g2.k fun y S3 H3 g3 hy => by
    obtain ⟨d, rfl, hd⟩ := hx
    rw [D_int hy]
    exact ⟨d, .int (a : Nat), rfl, .inl ⟨_, Sum.inl (r : Int), rd_up (g3.st.trans g3.k.le) hd, rfl, by rw [val_iEnc, hl]; rfl⟩, k _ S3 H3 (g2.trans g3) (Dd.int _)⟩
theorem ev_dinI {kvs : List (Nat × Nat)} {r : Nat} (h1 : Ev md S td σ (DciT kvs)) (h2 : Ev md S te σ (D (nI r))) : Ev md S (tDIn te td) σ (D (.bool (lk kvs r).isSome)) := fun S1 H R e o k =>
  h2 S1 H _ e o fun y S2 H2 g2 hy => h1 S2 H2 _ (e.trans g2.st) g2.k fun x S3 H3 g3 hx => by
    obtain ⟨d, rfl, hd⟩ := hx
    rw [D_int hy]
    refine ⟨d, _, rfl, .inl ⟨_, Sum.inl (r : Int), rd_up g3.k.le hd, rfl, rfl⟩, k _ S3 H3 (g2.trans g3) ?_⟩
    rw [val_iEnc, Option.isSome_map]
    exact Dd.bl _
theorem ev_dnotinI {kvs : List (Nat × Nat)} {r : Nat} (h1 : Ev md S td σ (DciT kvs)) (h2 : Ev md S te σ (D (nI r))) : Ev md S (tDNotIn te td) σ (D (.bool (!(lk kvs r).isSome))) := fun S1 H R e o k =>
  h2 S1 H _ e o fun y S2 H2 g2 hy => h1 S2 H2 _ (e.trans g2.st) g2.k fun x S3 H3 g3 hx => by
    obtain ⟨d, rfl, hd⟩ := hx
    rw [D_int hy]
    refine ⟨d, _, rfl, .inl ⟨_, Sum.inl (r : Int), rd_up g3.k.le hd, rfl, rfl⟩, k _ S3 H3 (g2.trans g3) ?_⟩
    rw [val_iEnc, Option.isSome_map]
    exact Dd.bl _
theorem ev_dnotin {kvs : List (List Nat × Nat)} {r : List Nat} (h1 : Ev md S td σ (DctT kvs)) (h2 : Ev md S te σ (D (tI r))) : Ev md S (tDNotIn te td) σ (D (.bool (!(lk kvs r).isSome))) := fun S1 H R e o k =>
  h2 S1 H _ e o fun y S2 H2 g2 hy => h1 S2 H2 _ (e.trans g2.st) g2.k fun x S3 H3 g3 hx => by
    obtain ⟨d, rfl, hd⟩ := hx
    obtain ⟨b, rfl, hb⟩ := row_key hy
    refine ⟨d, _, rfl, .inr ⟨_, _, b, rd_up g3.k.le hd, rfl, g3.k.le _ _ (g3.st _ _ hb), rfl⟩, k _ S3 H3 (g2.trans g3) ?_⟩
    rw [val_dEnc, Option.isSome_map]
    exact Dd.bl _
/-- twin.get(k, x) -/
theorem ev_dget2I {kvs : List (Nat × Nat)} {r x : Nat} (h1 : Ev md S td σ (DciT kvs)) (h2 : Ev md S te σ (D (nI r))) (h3 : Ev md S tx σ (D (nI x))) : Ev md S (tDGet2 td te tx) σ (D (nI ((lk kvs r).getD x))) := fun S1 H R e o k =>
  h1 S1 H _ e o fun v S2 H2 g2 hv => by
    obtain ⟨d, rfl, hd⟩ := hv
    refine ⟨d, rfl, .inl ⟨_, rd_up g2.k.le hd⟩, h2 S2 H2 _ (e.trans g2.st) g2.k fun y S3 H3 g3 hy => h3 S3 H3 _ ((e.trans g2.st).trans g3.st) g3.k fun z S4 H4 g4 hz => ?_⟩
    rw [D_int hy, D_int hz]
    refine ⟨_, .inl ⟨_, Sum.inl (r : Int), rd_up ((g3.st.trans g4.st).trans g4.k.le) hd, rfl, rfl⟩, k _ S4 H4 ((g2.trans g3).trans g4) ?_⟩
    rw [val_iEnc]
    cases lk kvs r with
    | none => exact Dd.int _
    | some a => exact Dd.int _
theorem ev_dget2T {kvs : List (List Nat × Nat)} {r : List Nat} {x : Nat} (h1 : Ev md S td σ (DctT kvs)) (h2 : Ev md S te σ (D (tI r))) (h3 : Ev md S tx σ (D (nI x))) : Ev md S (tDGet2 td te tx) σ (D (nI ((lk kvs r).getD x))) := fun S1 H R e o k =>
  h1 S1 H _ e o fun v S2 H2 g2 hv => by
    obtain ⟨d, rfl, hd⟩ := hv
    refine ⟨d, rfl, .inr ⟨_, rd_up g2.k.le hd⟩, h2 S2 H2 _ (e.trans g2.st) g2.k fun y S3 H3 g3 hy => h3 S3 H3 _ ((e.trans g2.st).trans g3.st) g3.k fun z S4 H4 g4 hz => ?_⟩
    obtain ⟨b, rfl, hb⟩ := row_key hy
    rw [D_int hz]
    refine ⟨_, .inr ⟨_, _, b, rd_up ((g3.st.trans g4.st).trans g4.k.le) hd, rfl, g4.k.le _ _ (g4.st _ _ hb), rfl⟩, k _ S4 H4 ((g2.trans g3).trans g4) ?_⟩
    rw [val_dEnc]
    cases lk kvs r with
    | none => exact Dd.int _
    | some a => exact Dd.int _
/-- d[k] = v, a dict of our own -/
theorem s_dputO {d : Addr} {kvs : List (List L2.Key × V)} {r : List Nat} {a : Nat} (hv : Ev md S tx σ (D (nI a))) (ha : ∀ (H : Hp) (R : VK), R (.ref d) H → td σ H R) (hk : Ev md S te σ (D (tI r))) (g : Gr md S0 H0 S H) (w : Own md S0 H0 S H d (.dT kvs)) (hl : kvs.length < 100000)
    (k : ∀ S' H', Gr md S0 H0 S' H' → Same S S' → Own md S0 H0 S' H' d (.dT (putK kvs (keyN r) (.int (a : Nat)))) → (∀ q o, q ≠ d → ¬ md.M q → H q = some o → H' q = some o) → D'.nx σ H') : sDPut td te tx D' σ H :=
  hv S H _ (Same.refl _) g.k fun v S2 H2 g2 hv' => ha H2 _ (hk S2 H2 _ g2.st g2.k fun y S3 H3 g3 hy => by
    have w3 := w.step g (g2.trans g3)
    rw [D_int hv']
    obtain ⟨b, rfl, hb⟩ := row_key hy
    obtain ⟨g4, w4⟩ := w3.upd (o' := .dT (putK kvs (keyN r) (.int (a : Nat)))) (g.trans (g2.trans g3))
    refine ⟨d, _, rfl, .inr ⟨_, _, b, w3.h, rfl, g3.k.le _ _ hb, Nat.lt_of_lt_of_le hl (by decide), rfl⟩, k S3 _ g4 (g2.st.trans g3.st) w4 fun q o n m e => ?_⟩
    rw [upd_ne n]
    exact g3.fr q o m (g2.fr q o m e))
theorem q_dputO {d : Addr} {kvs : List (List L2.Key × V)} {r : List Nat} {a : Nat} (hv : Ev md S tx σ (D (nI a))) (ha : ∀ (H : Hp) (R : VK), R (.ref d) H → td σ H R) (hk : Ev md S te σ (D (tI r))) (g : Gr md S0 H0 S H) (w : Own md S0 H0 S H d (.dT kvs)) (hl : kvs.length < 100000)
    (k : ∀ S' H', Gr md S0 H0 S' H' → Same S S' → Own md S0 H0 S' H' d (.dT (putK kvs (keyN r) (.int (a : Nat)))) → (∀ q o, q ≠ d → ¬ md.M q → H q = some o → H' q = some o) → tz D' σ H') : tSeq (sDPut td te tx) tz D' σ H :=
  s_dputO (D' := { D' with nx := tz D' }) hv ha hk g w hl k
theorem s_dputI {d : Addr} {kvs : List (L2.Key × V)} {r : Nat} {a : Nat} (hv : Ev md S tx σ (D (nI a))) (ha : ∀ (H : Hp) (R : VK), R (.ref d) H → td σ H R) (hk : Ev md S te σ (D (nI r))) (g : Gr md S0 H0 S H) (w : Own md S0 H0 S H d (.dK kvs)) (hl : kvs.length < 100000)
    (k : ∀ S' H', Gr md S0 H0 S' H' → Same S S' → Own md S0 H0 S' H' d (.dK (putK kvs (Sum.inl (r : Int)) (.int (a : Nat)))) → D'.nx σ H') : sDPut td te tx D' σ H :=
  hv S H _ (Same.refl _) g.k fun v S2 H2 g2 hv' => ha H2 _ (hk S2 H2 _ g2.st g2.k fun y S3 H3 g3 hy => by
    have w3 := w.step g (g2.trans g3)
    rw [D_int hv', D_int hy]
    obtain ⟨g4, w4⟩ := w3.upd (o' := .dK (putK kvs (Sum.inl (r : Int)) (.int (a : Nat)))) (g.trans (g2.trans g3))
    exact ⟨d, _, rfl, .inl ⟨_, Sum.inl (r : Int), w3.h, rfl, Nat.lt_of_lt_of_le hl (by decide), rfl⟩, k S3 _ g4 (g2.st.trans g3.st) w4⟩)
/-- {} , a dict of our own -/
theorem q_newT {i : Nat} (g : Gr md S0 H0 S H) (k : ∀ d H', Gr md S0 H0 S H' → Gr md S H S H' → Own md S0 H0 S H' d (.dT []) → tz D' (σ.set i (some (.ref d))) H') : tSeq (tAsg tDNewT (gName i)) tz D' σ H := by
  intro p hp
  have n := g.k.newL (o := .dT []) hp
  exact k p _ (g.trans n) n ⟨nf_back g hp, g.k.le.free hp, upd_same, True.intro⟩
theorem q_newK {i : Nat} (g : Gr md S0 H0 S H) (k : ∀ d H', Gr md S0 H0 S H' → Gr md S H S H' → Own md S0 H0 S H' d (.dK []) → tz D' (σ.set i (some (.ref d))) H') : tSeq (tAsg tDNewK (gName i)) tz D' σ H := by
  intro p hp
  have n := g.k.newL (o := .dK []) hp
  exact k p _ (g.trans n) n ⟨nf_back g hp, g.k.le.free hp, upd_same, True.intro⟩
/-- an object of our own is locked ahead of a statement -/
def tFrzS (t : TS) : TS := fun D σ H => ∃ d u, H d = some u ∧ Mut (some u) ∧ ∀ o, t D σ (upd H d (.frz o u))
theorem ps_frz {X : Cx} {st : Stmt} {t : TS} (h : PS X st t) : PS X st (tFrzS t) := by
  refine ⟨fun pins s σ H D I hw => ?_⟩
  obtain ⟨d, u, hd, mu, q⟩ := hw
  obtain ⟨o, I2⟩ := I.lock hd mu
  exact h.run pins s σ _ D I2 (q o)
theorem s_frz {d : Addr} {u : HO} (w : Own md S0 H0 S H d u) (g : Gr md S0 H0 S H) (mu : Mut (some u)) (k : ∀ o H', Gr md S0 H0 (upd S d (.frz o u)) H' → Same S (upd S d (.frz o u)) → tu D' σ H') : tFrzS tu D' σ H :=
  ⟨d, u, w.h, mu, fun o => by
    obtain ⟨g1, w1⟩ := w.upd (o' := .frz o u) g
    exact k o _ (w1.put g1) (same_new w1.s)⟩
theorem q_frz {d : Addr} {u : HO} (w : Own md S0 H0 S H d u) (g : Gr md S0 H0 S H) (mu : Mut (some u)) (k : ∀ o H', Gr md S0 H0 (upd S d (.frz o u)) H' → Same S (upd S d (.frz o u)) → tSeq tu tz D' σ H') : tSeq (tFrzS tu) tz D' σ H := s_frz (D' := { D' with nx := tz D' }) w g mu k
/-- while: Iv m at the head -/
theorem s_while {c : TT} (Iv : Nat → L2.St → Hp → Hp → Prop) (m0 : Nat) (g0 : Gr md S0 H0 S H) (h0 : Iv m0 σ S H)
    (hs : ∀ m σ1 S1 H1, Gr md S0 H0 S1 H1 → Iv m σ1 S1 H1 → ∃ b, EvT md S1 c σ1 b ∧ (b = true → ∀ S2 H2, Gr md S0 H0 S2 H2 → Gr md S1 H1 S2 H2 →
      tu { D' with nx := fun σ' H' => ∃ m', m' < m ∧ ∃ S', Gr md S0 H0 S' H' ∧ Iv m' σ' S' H', ct := fun σ' H' => ∃ m', m' < m ∧ ∃ S', Gr md S0 H0 S' H' ∧ Iv m' σ' S' H', bk := D'.nx } σ1 H2) ∧ (b = false → ∀ S2 H2, Gr md S0 H0 S2 H2 → Gr md S1 H1 S2 H2 → D'.nx σ1 H2)) : tWhile c tu D' σ H := by
  refine ⟨fun m σ1 H1 => ∃ S1, Gr md S0 H0 S1 H1 ∧ Iv m σ1 S1 H1, ⟨m0, S, g0, h0⟩, ?_⟩
  rintro m σ1 H1 ⟨S1, g1, iv⟩
  obtain ⟨b, hb, ht, hf⟩ := hs m σ1 S1 H1 g1 iv
  refine hb S1 H1 _ (Same.refl _) g1.k fun S2 H2 g2 => ?_
  cases b with
  | true => exact iteT ⟨_, fun σ' H' ⟨m', hm, S', a, b⟩ => ⟨m', hm, S', a, b⟩, ht rfl S2 H2 (g1.trans g2) g2⟩
  | false => exact iteF (hf rfl S2 H2 (g1.trans g2) g2)
theorem q_while {c : TT} (Iv : Nat → L2.St → Hp → Hp → Prop) (m0 : Nat) (g0 : Gr md S0 H0 S H) (h0 : Iv m0 σ S H)
    (hs : ∀ m σ1 S1 H1, Gr md S0 H0 S1 H1 → Iv m σ1 S1 H1 → ∃ b, EvT md S1 c σ1 b ∧ (b = true → ∀ S2 H2, Gr md S0 H0 S2 H2 → Gr md S1 H1 S2 H2 →
      tu { D' with nx := fun σ' H' => ∃ m', m' < m ∧ ∃ S', Gr md S0 H0 S' H' ∧ Iv m' σ' S' H', ct := fun σ' H' => ∃ m', m' < m ∧ ∃ S', Gr md S0 H0 S' H' ∧ Iv m' σ' S' H', bk := tz D' } σ1 H2) ∧ (b = false → ∀ S2 H2, Gr md S0 H0 S2 H2 → Gr md S1 H1 S2 H2 → tz D' σ1 H2)) : tSeq (tWhile c tu) tz D' σ H := s_while (D' := { D' with nx := tz D' }) Iv m0 g0 h0 hs
/-- several tuples join what stays -/
theorem see_all : ∀ (l : List (Addr × List V)) {S : Hp}, Ok md S H → (∀ p ∈ l, H p.1 = some (.tup p.2)) → ∃ S', Gr md S H S' H ∧ ∀ p ∈ l, S' p.1 = some (.tup p.2)
  | [], S, o, _ => ⟨S, Gr.refl o, fun p hp => by cases hp⟩
  | q :: l, S, o, h => by
    have g := o.seeT (h q List.mem_cons_self)
    obtain ⟨S', g', h'⟩ := see_all l g.k fun p hp => h p (List.mem_cons_of_mem _ hp)
    refine ⟨S', g.trans g', fun p hp => ?_⟩
    rcases List.mem_cons.mp hp with rfl | hp
    · exact g'.st _ _ upd_same
    · exact h' p hp
theorem keys_all {bs : List Addr} : ∀ {kvs : List (List Nat × Nat)}, IsKeys H (dEnc kvs) bs → ∀ {S : Hp}, Ok md S H → ∃ S', Gr md S H S' H ∧ DdAll S' (bs.map V.ref) ((kvs.map (·.1)).map tI) := by
  intro kvs hk S o
  obtain ⟨S', g, hs⟩ := see_all (md := md) ((bs.zip kvs).map fun p => (p.1, (keyN p.2.1).map kV)) o (fun p hp => by
    obtain ⟨q, hq, rfl⟩ := List.mem_map.mp hp
    clear o
    unfold IsKeys at hk
    induction kvs generalizing bs with
    | nil => simp at hq
    | cons kv kvs ih =>
      cases hk with
      | cons a b =>
        rcases List.mem_cons.mp hq with rfl | hq
        · exact a
        · exact ih b hq (List.mem_map.mpr ⟨q, hq, rfl⟩))
  refine ⟨S', g, ?_⟩
  clear g o
  unfold IsKeys at hk
  induction kvs generalizing bs with
  | nil =>
    cases hk
    exact .nil
  | cons kv kvs ih =>
    cases hk with
    | @cons _ b _ bs' a t =>
      refine .cons ?_ (ih t fun p hp => hs p (by simpa using .inr (by simpa using hp)))
      have := hs (b, (keyN kv.1).map kV) (by simp)
      rw [keyN_kV] at this
      refine Dd.tup this ?_
      have q := DdAll.ints (S := S') (kv.1.map fun n : Nat => (n : Int))
      rw [List.map_map, List.map_map] at q
      exact q
theorem ev_sortDT {kvs : List (List Nat × Nat)} (h : Ev md S td σ (DctT kvs)) (hp : (kvs.map (·.1)).Pairwise (· < ·)) (hne : ∀ r ∈ kvs.map (·.1), r ≠ []) : Ev md S (tCB rSortDT (tCons td tNil)) σ (D (rsD (kvs.map (·.1)))) := fun S1 H R e o k =>
  ea1 h S1 H _ e o fun vs S2 H2 g2 hv => by
    obtain ⟨v, rfl, hw⟩ := hv.one
    obtain ⟨d, rfl, hd⟩ := hw
    refine ⟨d, _, kvs.map (·.1), rfl, rd_up g2.k.le hd, by unfold dEnc; rw [List.map_map, List.map_map]; rfl, hp, hne, fun p bs hpn hk => ?_⟩
    obtain ⟨S3, g3, h3⟩ := keys_all hk g2.k
    have n := g3.k.new (o := .lst (bs.map V.ref)) hpn
    exact k _ _ _ ((g2.trans g3).trans n) (Dd.lst upd_same (DdAll.up n.st _ h3))
/-- for row, told in d.items(), d locked -/
theorem ex_items {kvs : List (List Nat × Nat)} (h : Ev md S td σ (DctF kvs)) : EvX md S (iItemsT td) σ kvs (fun p S x => ∃ a q, x = .ref a ∧ S a = some (.tup [q, .int (p.2 : Nat)]) ∧ (D (tI p.1)).ok S q) := fun S1 H R e o k =>
  h S1 H _ e o fun v S2 H2 g2 hv => by
    obtain ⟨d, od, rfl, hd⟩ := hv
    refine ⟨d, od, dEnc kvs, rfl, g2.k.le _ _ hd, fun qs hq => ?_⟩
    have hl : (dEnc kvs).length = kvs.length := List.length_map _
    obtain ⟨S3, g3, h3⟩ := see_all (md := md) ((List.range kvs.length).map fun i => (qs i, (keyN (kvs.getD i ([], 0)).1).map kV)) g2.k (fun p hp => by
      obtain ⟨i, hi, rfl⟩ := List.mem_map.mp hp
      have hi' := List.mem_range.mp hi
      have hg : kvs[i]? = some (kvs.getD i ([], 0)) := by
        rw [List.getD_eq_getElem?_getD, List.getElem?_eq_getElem hi']
        rfl
      exact hq i (keyN (kvs.getD i ([], 0)).1, .int ((kvs.getD i ([], 0)).2 : Nat)) (by unfold dEnc; rw [List.getElem?_map, hg]; rfl))
    refine k _ S3 H2 (g2.trans g3) ?_
    have w : Wk md S3 (Prs (dEnc kvs).length (itF qs (dEnc kvs)) fun H => H d = some (.frz od (.dT (dEnc kvs)))) (dEnc kvs).length _ := wk_prs (fun S4 H4 e4 l4 => l4 _ _ (e4 _ _ (g3.st _ _ hd)))
      (fun i S u v => ∃ p, kvs[i]? = some p ∧ (D (tI p.1)).ok S u ∧ v = .int (p.2 : Nat)) (fun i S4 e4 hi => ?_) (fun i S4 S5 x y e ⟨p, a, b, c⟩ => ⟨p, a, (D _).up e b, c⟩)
    · rw [hl] at w ⊢
      exact ⟨w.go, w.stop, fun i S1 H x H' a b c d => by
        obtain ⟨S3, g3, A, u, v, e, e2, p, r1, r2, rfl⟩ := w.yld i S1 H x H' a b c d
        exact ⟨S3, g3, p, r1, A, u, e, e2, r2⟩⟩
    · rw [hl] at hi
      have hg := List.getElem?_eq_getElem hi
      refine ⟨kvs[i], hg, ?_, ?_⟩
      · have hgd : kvs.getD i ([], 0) = kvs[i] := by rw [List.getD_eq_getElem?_getD, hg]; rfl
        have := h3 (qs i, (keyN (kvs.getD i ([], 0)).1).map kV) (List.mem_map.mpr ⟨i, List.mem_range.mpr hi, rfl⟩)
        rw [hgd, keyN_kV] at this
        show Dd S4 (.ref (qs i)) (tI kvs[i].1)
        refine Dd.tup (e4 _ _ this) ?_
        have q := DdAll.ints (S := S4) (kvs[i].1.map fun n : Nat => (n : Int))
        rw [List.map_map, List.map_map] at q
        exact q
      · show ((dEnc kvs).map (·.2)).getD i .non = _
        unfold dEnc
        rw [List.map_map, List.getD_eq_getElem?_getD, List.getElem?_map, hg]
        rfl
end K49
end
section
set_option linter.all false
set_option maxRecDepth 100000
set_option maxHeartbeats 4000000
namespace K49
open PySem PySem.Spec PyProof.Rows L2 KR KD
/-! ### readers as the law has them: (source, goal, window, table) -/
def tb (w : W) (j : Nat) (T : Tb) : List (List Nat × Nat) := (rowsN w j).map fun r => (r, T r)
theorem tb_keys (w : W) (j : Nat) (T : Tb) : (tb w j T).map (·.1) = rowsN w j := by
  unfold tb
  rw [List.map_map]
  exact List.map_id' _
theorem lk_map {T : Tb} : ∀ {rs : List (List Nat)} {r : List Nat}, r ∈ rs → lk (rs.map fun r => (r, T r)) r = some (T r)
  | [], _, h => by cases h
  | s :: rs, r, h => by
    rw [List.map_cons, lk_cons]
    by_cases e : s = r
    · rw [if_pos e, e]
    · rw [if_neg e]
      rcases List.mem_cons.mp h with h | h
      · exact absurd h.symm e
      · exact lk_map h
theorem lk_not {T : Tb} : ∀ {rs : List (List Nat)} {r : List Nat}, r ∉ rs → lk (rs.map fun r => (r, T r)) r = none
  | [], _, _ => rfl
  | s :: rs, r, h => by
    have ne : ¬ s = r := fun e => h (by rw [e]; exact List.mem_cons_self)
    rw [List.map_cons, lk_cons, if_neg ne]
    exact lk_not fun z => h (List.mem_cons_of_mem _ z)
theorem lk_tb {w : W} {j : Nat} {T : Tb} {r : List Nat} (h : r ∈ rowsN w j) : lk (tb w j T) r = some (T r) := lk_map h
theorem tb_congr {w : W} {j : Nat} {T U : Tb} (h : ∀ r ∈ rowsN w j, T r = U r) : tb w j T = tb w j U := List.map_congr_left fun r hr => by rw [h r hr]
def RdT (w v : W) (j : Nat) (T : Tb) : KD.Ty := TupT [D (wD w), D (wD v), D (nI (j + 1)), DctT (tb w j T)]
variable {md : Md} {S : Hp} {K : PySem.W.Frag} {σ : L2.St} {ta tb' te td : TE}
theorem ev_sortR {w : W} {j : Nat} {T : Tb} (h : Ev md S td σ (DctT (tb w j T))) : Ev md S (tCB rSortDT (tCons td tNil)) σ (D (rsD (rowsN w j))) := by
  have q := ev_sortDT h (by rw [tb_keys]; exact rowsN_lt w j) (fun r hr => by rw [tb_keys] at hr; exact rowsN_ne hr)
  rw [tb_keys] at q
  exact q
/-- row[:-1] -/
theorem cut_last (ts : List KD.Ty) : cutT ts none (some (-1)) = ts.dropLast := by
  unfold cutT HT.sIx
  show (ts.drop 0).take ((if (-1 : Int) < 0 then (-1 + (ts.length : Int)).toNat else _) - 0) = _
  rw [if_pos (by decide), List.drop_zero, Nat.sub_zero, List.dropLast_eq_take]
  congr 1
  omega
theorem ev_cutLast {r : List Nat} (h : Ev md S te σ (D (tI r))) (h2 : Ev md S ta σ (D (.int (-1)))) : Ev md S (tSl (rSlA K) te tNoPart (tPart ta)) σ (D (tI r.dropLast)) := by
  have q := ev_slA (K := K) h.Dtup eo_none (eo_some h2)
  rw [cut_last] at q
  refine Ev.tupD ?_
  rw [List.map_dropLast, List.map_dropLast]
  exact q
theorem tI_cut (r : List Nat) (lo hi : Option Int) : cutT ((r.map nI).map D) lo hi = (((r.drop (HT.sIx r.length 0 lo)).take (HT.sIx r.length r.length hi - HT.sIx r.length 0 lo)).map nI).map D := by
  unfold cutT
  rw [List.length_map, List.length_map, List.map_take, List.map_take, List.map_drop, List.map_drop]
theorem rows_card {w : W} (ok : WOk w) {j k : Nat} (h : many w (k + 1) ≤ 600) (hj : j ≤ k) : (rowsN w j).length ≤ 600 := by
  rw [rowsN_len ok]
  exact Nat.le_trans (many_mono ok (by omega)) h
end K49
end
section
set_option linter.all false
set_option maxRecDepth 100000
set_option maxHeartbeats 4000000
namespace K49
open PySem PySem.Spec PyProof.Rows L2 KR KD
/-! ### the bag: what it holds, what may change -/
def bagV (l : Addr) (p : Nat) (r s c : Int) : List V := [.ref l, .int (p : Nat), .int r, .int s, .int c]
def BagB (b l : Addr) (ns : List Int) (H : Hp) : Prop := (∃ (p : Nat) (r s c : Int), H b = some (.lst (bagV l p r s c)) ∧ p ≤ ns.length ∧ 0 ≤ r) ∧ H l = some (.lst (ns.map V.int))
theorem bag_ne {b l : Addr} {ns : List Int} {H : Hp} {p : Nat} {r s c : Int} (h1 : H b = some (.lst (bagV l p r s c))) (h2 : H l = some (.lst (ns.map V.int))) : l ≠ b := by
  rintro rfl
  rw [h1] at h2
  cases ns with
  | nil => cases h2
  | cons n ns =>
    have := Option.some.inj h2
    cases this
def bagMd (b l : Addr) (ns : List Int) : Md where
  M := fun p => p = b
  B := BagB b l ns
  up := fun H H' e ⟨⟨p, r, s, c, h1, h2⟩, h3⟩ => ⟨⟨p, r, s, c, e _ _ h1, h2⟩, e _ _ h3⟩
  loc := fun H0 H p o ⟨⟨_, _, _, _, a1, _⟩, a2⟩ h ⟨⟨p', r, s, c, h1, h2⟩, h3⟩ => ⟨⟨p', r, s, c, by rw [upd_ne (ne_of_none a1 h)]; exact h1, h2⟩, by rw [upd_ne (ne_of_none a2 h)]; exact h3⟩
  nt := fun H p o ⟨⟨_, _, _, _, h1, _⟩, _⟩ e q => by
    rw [show p = b from e, h1] at q
    cases q
    exact True.intro
/-- the promise of a def that draws from the bag -/
def spB {α : Type} (dom : α → Prop) (f : α → List KD.Ty) (g : α → KD.Ty) : Sp := fun vs H Q _ => ∃ (b l : Addr) (ns : List Int) (S : Hp) (a : α), dom a ∧ Ok (bagMd b l ns) S H ∧ All S vs (IsV (.ref b) :: f a) ∧ ∀ v S' H', Gr (bagMd b l ns) S H S' H' → (g a).ok S' v → Q v H'
theorem ev_callB {α : Type} {dom : α → Prop} {f : α → List KD.Ty} {g : α → KD.Ty} {b l : Addr} {ns : List Int} {S : Hp} {σ : L2.St} {ta : TA} {E : XK} (a : α) (ha : dom a) (h : EvA (bagMd b l ns) S ta σ (IsV (.ref b) :: f a)) : Ev (bagMd b l ns) S (tCall (spB dom f g) [] E ta) σ (g a) := fun S1 H R e o k =>
  h S1 H _ e o fun vs S2 H2 g2 hvs => ⟨b, l, ns, S2, a, ha, g2.k, by rw [List.append_nil]; exact hvs, fun v S3 H3 g3 hv => k v S3 H3 (g2.trans g3) hv⟩
/-- a number below m; one from lo to hi -/
def Lt (m : Nat) : KD.Ty := ⟨fun _ v => ∃ r : Nat, r < m ∧ v = .int (r : Nat), fun _ h => h⟩
theorem fmod_lt {i : Int} {m : Nat} (hm : 0 < m) : ∃ r : Nat, r < m ∧ i.fmod (m : Int) = (r : Nat) := by
  have h1 := Int.fmod_nonneg_of_pos i (show (0 : Int) < (m : Int) by omega)
  have h2 := Int.fmod_lt_of_pos i (show (0 : Int) < (m : Int) by omega)
  exact ⟨(i.fmod (m : Int)).toNat, by omega, by omega⟩
def sp_z_pull : Sp := spB (α := Nat) (fun m => 0 < m ∧ m < 1000000) (fun m => [D (nI m)]) (fun m => Lt m)
section
variable {P : Program} {w : World} {K : PySem.W.Frag} {mg : Str → Option Value} {base : Heap}
variable {D' : Ends} {tz : TS} {te : TE} {σ : L2.St} {b l : Addr} {ns : List Int} {S0 H0 S H : Hp}
/-- the bag as it stands -/
structure BgAt (b l : Addr) (ns : List Int) (S0 H0 S H : Hp) (p : Nat) (r s c : Int) : Prop where
  g : Gr (bagMd b l ns) S0 H0 S H
  b : H b = some (.lst (bagV l p r s c))
  p : p ≤ ns.length
  r : 0 ≤ r
theorem same_on {H H' : Hp} (e : Same H H') {p : Addr} (h : H p ≠ none) : H' p ≠ none := by
  obtain ⟨o, q⟩ := some_of h
  rw [e _ _ q]
  exact fun z => by cases z
theorem Gr.ext {md : Md} {S0 H0 S H H' : Hp} (g : Gr md S0 H0 S H) (e : Same H H') : Gr md S0 H0 S H' :=
  g.trans ⟨g.k, ⟨g.k.le.trans e, md.up _ _ e g.k.b, fun p z => ⟨(g.k.m p z).1, same_on e (g.k.m p z).2⟩⟩, Same.refl _, fun p o _ h => e p o h, fun p z => same_on e z, fun _ _ _ _ _ h => h⟩
theorem BgAt.ext {H' : Hp} {p : Nat} {r s c : Int} (B : BgAt b l ns S0 H0 S H p r s c) (e : Same H H') : BgAt b l ns S0 H0 S H' p r s c := ⟨Gr.ext B.g e, e _ _ B.b, B.p, B.r⟩
theorem BgAt.set {p p' : Nat} {r r' s s' c c' : Int} (B : BgAt b l ns S0 H0 S H p r s c) (hp : p' ≤ ns.length) (hr : 0 ≤ r') : BgAt b l ns S0 H0 S (upd H b (.lst (bagV l p' r' s' c'))) p' r' s' c' := by
  obtain ⟨_, h3⟩ := B.g.k.b
  exact ⟨B.g.chg rfl ⟨⟨p', r', s', c', upd_same, hp, hr⟩, by rw [upd_ne (bag_ne B.b h3)]; exact h3⟩, upd_same, hp, hr⟩
theorem BgAt.ty {p : Nat} {r s c : Int} (B : BgAt b l ns S0 H0 S H p r s c) : (LstT [D (.list (ns.map PyData.int)), D (nI p), D (.int r), D (.int s), D (.int c)]).ok H (.ref b) :=
  ⟨b, _, rfl, B.b, .cons (Dd.lst B.g.k.b.2 (DdAll.ints ns)) (.cons (Dd.int _) (.cons (Dd.int _) (.cons (Dd.int _) (.cons (Dd.int _) .nil))))⟩
theorem BgAt.ix {p : Nat} {r s c i : Int} {j : Nat} {T : KD.Ty} (B : BgAt b l ns S0 H0 S H p r s c) (h0 : σ[0]? = some (some (.ref b)) := by rfl) (hj : ixN 5 i = some j := by rfl) (ht : [D (.list (ns.map PyData.int)), D (nI p), D (.int r), D (.int s), D (.int c)][j]? = some T := by rfl) :
    Ev md0 H (tOp (rIxL K) (tVar 0) (tC (.int i))) σ T := ev_ixL (ev_var B.ty h0) ev_int hj ht
/-- a name is set by what changes nothing -/
theorem b_asg {i : Nat} {x : Int} {p : Nat} {r s c : Int} (h : Ev md0 H te σ (D (.int x))) (B : BgAt b l ns S0 H0 S H p r s c) (k : ∀ H', Same H H' → BgAt b l ns S0 H0 S H' p r s c → tz D' (σ.set i (some (.int x))) H') : tSeq (tAsg te (gName i)) tz D' σ H :=
  h H H _ (Same.refl _) Ok.self fun v S' H' g hv => by
    rw [D_int hv]
    have e : Same H H' := g.st.trans g.k.le
    exact k H' e (B.ext e)
/-- bag[i] = x -/
theorem b_setS {i x : Int} {j p p' : Nat} {r s c r' s' c' : Int} (h : Ev md0 H te σ (D (.int x))) (B : BgAt b l ns S0 H0 S H p r s c) (hp : p' ≤ ns.length) (hr : 0 ≤ r') (k : ∀ H', BgAt b l ns S0 H0 S H' p' r' s' c' → D'.nx σ H')
    (h0 : σ[0]? = some (some (.ref b)) := by rfl) (hj : ixN 5 i = some j := by rfl) (hb : (bagV l p r s c).set j (.int x) = bagV l p' r' s' c' := by rfl) : tAsg te (gSub (tVar 0) (tC (.int i)) rSetL) D' σ H :=
  h H H _ (Same.refl _) Ok.self fun v S' H' g hv => by
    rw [D_int hv]
    have B' := B.ext (g.st.trans g.k.le)
    refine ⟨_, h0, b, _, i, j, rfl, rfl, B'.b, hj, ?_⟩
    rw [hb]
    exact k _ (B'.set hp hr)
/-- bag[i] += x -/
theorem b_augS {i x y : Int} {j p p' : Nat} {r s c r' s' c' : Int} (h : Ev md0 H te σ (D (.int x))) (B : BgAt b l ns S0 H0 S H p r s c) (hp : p' ≤ ns.length) (hr : 0 ≤ r') (k : ∀ H', BgAt b l ns S0 H0 S H' p' r' s' c' → D'.nx σ H')
    (h0 : σ[0]? = some (some (.ref b)) := by rfl) (hj : ixN 5 (j : Nat) = some j := by rfl) (hy : (bagV l p r s c)[j]? = some (.int y) := by rfl) (hb : (bagV l p r s c).set j (.int (y + x)) = bagV l p' r' s' c' := by rfl) (hi : i = (j : Nat) := by rfl) : tAugS (tVar 0) (tC (.int i)) te (gGetL K) (ipI fun i j => i + j) rSetL D' σ H := by
  subst hi
  refine ⟨_, h0, b, _, j, _, rfl, rfl, SqL.of B.b, hy, h H H _ (Same.refl _) Ok.self fun v S' H' g hv => ?_⟩
  rw [D_int hv]
  have B' := B.ext (g.st.trans g.k.le)
  refine ⟨_, _, rfl, rfl, b, _, _, j, rfl, rfl, B'.b, hj, ?_⟩
  rw [hb]
  exact k _ (B'.set hp hr)
theorem b_set {i x : Int} {j p p' : Nat} {r s c r' s' c' : Int} (h : Ev md0 H te σ (D (.int x))) (B : BgAt b l ns S0 H0 S H p r s c) (hp : p' ≤ ns.length) (hr : 0 ≤ r') (k : ∀ H', BgAt b l ns S0 H0 S H' p' r' s' c' → tz D' σ H')
    (h0 : σ[0]? = some (some (.ref b)) := by rfl) (hj : ixN 5 i = some j := by rfl) (hb : (bagV l p r s c).set j (.int x) = bagV l p' r' s' c' := by rfl) : tSeq (tAsg te (gSub (tVar 0) (tC (.int i)) rSetL)) tz D' σ H := b_setS (D' := { D' with nx := tz D' }) h B hp hr k h0 hj hb
theorem b_aug {i x y : Int} {j p p' : Nat} {r s c r' s' c' : Int} (h : Ev md0 H te σ (D (.int x))) (B : BgAt b l ns S0 H0 S H p r s c) (hp : p' ≤ ns.length) (hr : 0 ≤ r') (k : ∀ H', BgAt b l ns S0 H0 S H' p' r' s' c' → tz D' σ H')
    (h0 : σ[0]? = some (some (.ref b)) := by rfl) (hj : ixN 5 (j : Nat) = some j := by rfl) (hy : (bagV l p r s c)[j]? = some (.int y) := by rfl) (hb : (bagV l p r s c).set j (.int (y + x)) = bagV l p' r' s' c' := by rfl) (hi : i = (j : Nat) := by rfl) : tSeq (tAugS (tVar 0) (tC (.int i)) te (gGetL K) (ipI fun i j => i + j) rSetL) tz D' σ H := b_augS (D' := { D' with nx := tz D' }) h B hp hr k h0 hj hy hb hi
/-- what follows is shown once -/
theorem q_mid {t : TS} (Mid : L2.St → Hp → Prop) (tail : ∀ σ H, Mid σ H → tz D' σ H) (body : (∀ σ H, Mid σ H → tz D' σ H) → tSeq t tz D' σ H) : tSeq t tz D' σ H := body tail
theorem b_if {t : TT} {tu tw : TS} {q : Bool} {p : Nat} {r s c : Int} (h : EvT md0 H t σ q) (B : BgAt b l ns S0 H0 S H p r s c) (h1 : q = true → ∀ H', Same H H' → BgAt b l ns S0 H0 S H' p r s c → tu { D' with nx := tz D' } σ H') (h2 : q = false → ∀ H', Same H H' → BgAt b l ns S0 H0 S H' p r s c → tw { D' with nx := tz D' } σ H') : tSeq (tIfS t tu tw) tz D' σ H :=
  h H H _ (Same.refl _) Ok.self fun S' H' g => by
    have e := g.st.trans g.k.le
    cases q with
    | true => exact h1 rfl H' e (B.ext e)
    | false => exact h2 rfl H' e (B.ext e)
theorem b_ret {x : Int} {p : Nat} {r s c : Int} (h : Ev md0 H te σ (D (.int x))) (B : BgAt b l ns S0 H0 S H p r s c) (k : ∀ H', BgAt b l ns S0 H0 S H' p r s c → D'.rt (.int x) H') : tRet te D' σ H :=
  h H H _ (Same.refl _) Ok.self fun v S' H' g hv => by
    rw [D_int hv]
    exact k H' (B.ext (g.st.trans g.k.le))
theorem ev_mulS {i j : Int} {ta tb : TE} {md : Md} (h1 : Ev md S ta σ (D (.int i))) (h2 : Ev md S tb σ (D (.int j))) (hj : -(2 ^ 64) < j ∧ j < 2 ^ 64) : Ev md S (tOp (rI CMul fun i j => .int (i * j)) ta tb) σ (D (.int (i * j))) := ev_opC h1 h2 (.inr hj)
abbrev t_z_pull : Stmt := top 35
theorem sc_z_pull : FnScope ["_law_bag_here", "_law_many_here", "_law_rest", "_law_cell", "_law_one", "_law_two"] ["_law_bag_here", "_law_many_here"] (defScope t_z_pull) := ⟨rfl, rfl, rfl, by decide +kernel, rfl, by decide +kernel, by decide +kernel⟩
theorem ok_z_pull {f : Addr} {fd : FuncData} (F : Fun K "_law_pull" "_law_pull" t_z_pull f fd) (T : Txt mg)
    : FnOk P w K mg base CX0 1 f fd ["_law_bag_here", "_law_many_here"] sp_z_pull := by
  refine F.ok sc_z_pull (fun vs H Q E h => by obtain ⟨_, _, _, _, _, _, _, hv, _⟩ := h; exact hv.len) (fun cdv A outer s H vs Q E hr h => ?_)
  obtain ⟨b, l, ns, S, m, hd, o, hv, k⟩ := h
  obtain ⟨m0, m1⟩ := hd
  obtain ⟨v1, v2, rfl, h1, h2⟩ := hv.two
  obtain rfl : v1 = .ref b := h1
  obtain rfl := D_int h2
  refine ⟨_, (pss_cons (ps_augS (pv 0) pe_int pget_list pe_int ip_add set_list)
    (pss_cons (ps_if (pt_cmpR op_gt (pe_ix (ix_listK K) (pv 0) pe_int (fun _ _ => rfl)) pe_int (nomark _))
      (pss_cons (ps_set (i := 2) sc_z_pull.nd rfl (.inl rfl) (pe_ix (ix_listK K) (pv 0) pe_int (fun _ _ => rfl)))
      (pss_cons (ps_asg (pe_op op_fdivN (pv 2) (pv 1)) (pg_sub (pv 0) pe_int set_list))
      (pss_one (ps_ret (pe_op op_modN (pv 2) (pv 1))))))
      pss_nil)
    (pss_cons (ps_set (i := 3) sc_z_pull.nd rfl (.inl rfl) (pe_ix (ix_listK K) (pv 0) pe_int (fun _ _ => rfl)))
    (pss_cons (ps_if (pt_cmpR op_lt (pe_ix (ix_listK K) (pv 0) pe_int (fun _ _ => rfl)) (pe_callB (call_lenK K) (by rfl) T.len PySem.boot_len (pa_cons (pe_ix (ix_listK K) (pv 0) pe_int (fun _ _ => rfl)) pa_nil)) (nomark _))
      (pss_cons (ps_set (i := 3) sc_z_pull.nd rfl (.inl rfl) (pe_ix (ix_listK K) (pe_ix (ix_listK K) (pv 0) pe_int (fun _ _ => rfl)) (pe_ix (ix_listK K) (pv 0) pe_int (fun _ _ => rfl)) (fun _ _ => rfl)))
      (pss_one (ps_augS (pv 0) pe_int pget_list pe_int ip_add set_list)))
      pss_nil)
    (pss_cons (ps_if (pt_cmpR op_ge (pv 3) (pe_op op_pow pe_int pe_int) (nomark _))
      (pss_cons (ps_asg (pe_op op_fdivN (pv 3) (pv 1)) (pg_sub (pv 0) pe_int set_list))
      (pss_one (ps_ret (pe_op op_modN (pv 3) (pv 1)))))
      pss_nil)
    (pss_cons (ps_set (i := 4) sc_z_pull.nd rfl (.inl rfl) (pe_op op_modN (pe_op op_add (pe_op op_add (pe_op op_add (pe_op op_mul (pv 3) pe_int) (pe_op op_mul (pe_ix (ix_listK K) (pv 0) pe_int (fun _ _ => rfl)) pe_int)) (pe_op op_mul (pe_ix (ix_listK K) (pv 0) pe_int (fun _ _ => rfl)) pe_int)) pe_int) pe_int))
    (pss_cons (ps_set (i := 5) sc_z_pull.nd rfl (.inl rfl) (pe_op op_modN (pe_op op_add (pe_op op_add (pe_op op_mul (pv 4) (pe_op op_add (pe_op op_modN (pv 4) pe_int) pe_int)) (pe_op op_mul (pe_ix (ix_listK K) (pv 0) pe_int (fun _ _ => rfl)) pe_int)) (pe_op op_modN (pe_ix (ix_listK K) (pv 0) pe_int (fun _ _ => rfl)) pe_int)) pe_int))
    (pss_cons (ps_asg (pe_op op_modN (pe_op op_add (pe_op op_mul (pe_ix (ix_listK K) (pv 0) pe_int (fun _ _ => rfl)) pe_int) (pv 5)) pe_int) (pg_sub (pv 0) pe_int set_list))
    (pss_one (ps_ret (pe_op op_modN (pe_op op_fdivN (pv 5) pe_int) (pv 1)))))))))))), ?_⟩
  obtain ⟨⟨p, r, s1, c, hb, hp, hr0⟩, hl⟩ := id o.b
  have B : BgAt b l ns S H S H p r s1 c := ⟨Gr.refl o, hb, hp, hr0⟩
  have dv : ∀ i : Int, CDivN i (m : Nat) := fun i => ⟨by omega, by
    show ((m : Int)).natAbs < 1073741824
    omega⟩
  have mn : ((m : Nat) : Int) ≠ 0 := by omega
  have fin : ∀ (i : Int) (H' : Hp) (p : Nat) (r s c : Int), BgAt b l ns S H S H' p r s c → Q (.int (i.fmod (m : Nat))) H' := fun i H' p r s c B => by
    obtain ⟨x, hx, e⟩ := fmod_lt (i := i) m0
    rw [e]
    exact k _ S H' B.g ⟨x, hx, rfl⟩
  refine b_aug (j := 4) ev_int B hp hr0 fun H1 B1 => ?_
  refine b_if (et_val (ev_opB B1.ix ev_int)) B1 (fun q H2 e2 B2 => ?_) (fun q H2 e2 B2 => ?_)
  · have hpos : 0 < r := by simpa using q
    show tSeq (tAsg _ (gName 2)) _ _ [some (.ref b), some (.int (m : Nat)), none, none, none, none] _
    refine b_asg B2.ix B2 fun H3 e3 B3 => ?_
    refine b_set (j := 2) (p' := p) (r' := r.fdiv (m : Nat)) (s' := s1) (c' := c + 1) (ev_opC (ev_var (Dd.int r)) (ev_var (Dd.int _)) (dv r)) B3 B3.p (Int.fdiv_nonneg hr0 (by omega)) fun H4 B4 => ?_
    exact b_ret (ev_opC (ev_var (Dd.int r)) (ev_var (Dd.int _)) mn) B4 fun H5 B5 => fin _ _ _ _ _ _ B5
  · refine b_asg B2.ix B2 fun H3 e3 B3 => ?_
    refine q_mid (fun σ H' => ∃ (x : Int) (p : Nat), σ = [some (.ref b), some (.int (m : Nat)), none, some (.int x), none, none] ∧ BgAt b l ns S H S H' p r s1 (c + 1)) ?_ fun tail => ?_
    · rintro σ H4 ⟨x, p, rfl, B4⟩
      refine b_if (et_val (ev_opB (ev_var (Dd.int x)) (ev_opC ev_int ev_int ⟨by decide, by decide, by decide⟩))) B4 (fun q H5 e5 B5 => ?_) (fun q H5 e5 B5 => ?_)
      · have hx : 0 ≤ x := by
          have : (10 : Int) ^ (18 : Int).toNat ≤ x := by simpa using q
          have : (0 : Int) ≤ (10 : Int) ^ (18 : Int).toNat := by decide
          omega
        refine b_set (j := 2) (p' := p) (r' := x.fdiv (m : Nat)) (s' := s1) (c' := c + 1) (ev_opC (ev_var (Dd.int x)) (ev_var (Dd.int _)) (dv x)) B5 B5.p (Int.fdiv_nonneg hx (by omega)) fun H6 B6 => ?_
        exact b_ret (ev_opC (ev_var (Dd.int x)) (ev_var (Dd.int _)) mn) B6 fun H7 B7 => fin _ _ _ _ _ _ B7
      · refine b_asg (ev_opC (ev_opI (ev_opI (ev_opI (ev_mulS (ev_var (Dd.int x)) ev_int ⟨by decide, by decide⟩) (ev_mulS B5.ix ev_int ⟨by decide, by decide⟩)) (ev_mulS B5.ix ev_int ⟨by decide, by decide⟩)) ev_int) ev_int (by decide)) B5 fun H6 e6 B6 => ?_
        refine b_asg (ev_opC (ev_opI (ev_opI (ev_mulS (ev_var (Dd.int _)) (ev_opI (ev_opC (ev_var (Dd.int _)) ev_int (by decide)) ev_int) ?_) (ev_mulS B6.ix ev_int ⟨by decide, by decide⟩)) (ev_opC B6.ix ev_int (by decide))) ev_int (by decide)) B6 fun H7 e7 B7 => ?_
        · obtain ⟨z, hz, e⟩ := fmod_lt (i := (x * 48271 + s1 * 40503 + (c + 1) * 69621 + 9176).fmod 2147483629) (m := 65521) (by decide)
          have e' : ((x * 48271 + s1 * 40503 + (c + 1) * 69621 + 9176).fmod 2147483629).fmod 65521 = (z : Int) := e
          rw [e']
          omega
        refine b_set (j := 3) (p' := p) (r' := r) (s' := _) (c' := c + 1) (ev_opC (ev_opI (ev_mulS B7.ix ev_int ⟨by decide, by decide⟩) (ev_var (Dd.int _))) ev_int (by decide)) B7 B7.p B7.r fun H8 B8 => ?_
        exact b_ret (ev_opC (ev_opC (ev_var (Dd.int _)) ev_int ⟨by decide, by decide⟩) (ev_var (Dd.int _)) mn) B8 fun H9 B9 => fin _ _ _ _ _ _ B9
    · show tSeq (tIfS _ _ _) _ _ [some (.ref b), some (.int (m : Nat)), none, some (.int s1), none, none] _
      refine b_if (et_val (ev_opB B3.ix (ev_lenDL B3.ix))) B3 (fun q H4 e4 B4 => ?_) (fun q H4 e4 B4 => ?_)
      · have hlt : p < ns.length := by simpa using q
        refine b_asg (x := ns[p]) (Ev.eq (ev_ixLN (xs := ns) (enc := PyData.int) (x := ns[p]) B4.ix B4.ix (List.getElem?_eq_getElem hlt)) rfl) B4 fun H5 e5 B5 => ?_
        exact b_augS (j := 1) (p' := p + 1) (r' := r) (s' := s1) (c' := c + 1) ev_int B5 hlt B5.r fun H6 B6 => tail _ _ ⟨ns[p], p + 1, rfl, B6⟩
      · exact tail _ _ ⟨s1, p, rfl, B4⟩
end
end K49
end
section
set_option linter.all false
set_option maxRecDepth 100000
set_option maxHeartbeats 4000000
/-! larger tables: 512 slots, up to 300 rows, all hashes apart -/
namespace KB
open PySem PySem.Spec PyProof.Rows L2
def orb : Nat → Nat → Nat → Nat
  | 0, _, acc => acc
  | n + 1, x, acc => orb n ((x * 5 + 1) % 512) (acc ||| (1 <<< x))
theorem orb_full : orb 512 0 0 = 2 ^ 512 - 1 := by decide +kernel
theorem orb_bit (j : Nat) : ∀ (n a acc : Nat), (orb n (lcgN 511 a) acc).testBit j = true → acc.testBit j = true ∨ ∃ b, b < a + n ∧ lcgN 511 b = j
  | 0, a, acc, h => .inl h
  | n + 1, a, acc, h => by
    rcases orb_bit j n (a + 1) _ (show (orb n (lcgN 511 (a + 1)) (acc ||| (1 <<< lcgN 511 a))).testBit j = true from h) with q | ⟨b, hb, e⟩
    · rw [Nat.testBit_or, Bool.or_eq_true] at q
      rcases q with q | q
      · exact .inl q
      · rw [Nat.one_shiftLeft, Nat.testBit_two_pow] at q
        exact .inr ⟨a, by omega, of_decide_eq_true q⟩
    · exact .inr ⟨b, by omega, e⟩
theorem cover511 {j : Nat} (hj : j ≤ 511) : ∃ b, b ≤ 511 ∧ lcgN 511 b = j := by
  have h : (orb 512 (lcgN 511 0) 0).testBit j = true := by
    show (orb 512 0 0).testBit j = true
    rw [orb_full, Nat.testBit_two_pow_sub_one]
    exact decide_eq_true (by omega)
  rcases orb_bit j 512 0 0 h with q | ⟨b, hb, e⟩
  · rw [Nat.zero_testBit] at q
    cases q
  · exact ⟨b, by omega, e⟩
theorem back511 : lcgN 511 512 = 0 := by decide +kernel
theorem turn511 : ∀ k, lcgN 511 (512 + k) = lcgN 511 k
  | 0 => back511
  | k + 1 => by
    show (lcgN 511 (512 + k) * 5 + 1) % 512 = (lcgN 511 k * 5 + 1) % 512
    rw [turn511 k]
def Msk (m : Nat) : Prop := MaskOk m ∨ m = 511
theorem Msk.meets {m : Nat} (hm : Msk m) (h : Int) {j : Nat} (hj : j ≤ m) : ∃ n, n ≤ m + 12 ∧ runI m (SetTable.bits h) n = j := by
  rcases hm with hm | rfl
  · exact run_meets hm h hj
  · obtain ⟨a, ha, ea⟩ := cover511 (runI_le 511 (SetTable.bits h) 12)
    obtain ⟨b, hb, eb⟩ := cover511 hj
    have go : ∀ k, lcgN 511 (a + k) = j → runI 511 (SetTable.bits h) (12 + k) = j := fun k e => by
      rw [runI_tail (bits_lt h), ← ea, lcgN_add]
      exact e
    by_cases c : a ≤ b
    · exact ⟨12 + (b - a), by omega, go _ (by rw [show a + (b - a) = b by omega]; exact eb)⟩
    · exact ⟨12 + (b + 512 - a), by omega, go _ (by rw [show a + (b + 512 - a) = 512 + b by omega, turn511]; exact eb)⟩
theorem Msk.odd {m : Nat} (hm : Msk m) : m % 2 = 1 := by
  rcases hm with hm | rfl
  · exact mask_odd hm
  · rfl
theorem Msk.le {m : Nat} (hm : Msk m) : m ≤ 511 := by
  rcases hm with (rfl | rfl | rfl) | rfl <;> omega
theorem Msk.way {m : Nat} (hm : Msk m) (h : Int) {j : Nat} (hj : j ≤ m) : ∃ k, k < 10 * SetTable.turns m ∧ L2.way m h k = j := by
  obtain ⟨n, hn, e⟩ := hm.meets h hj
  obtain ⟨k, hk, e2⟩ := run_nth m (SetTable.bits h) n
  refine ⟨k, by unfold SetTable.turns; omega, ?_⟩
  show (nth m (runAt m (SetTable.bits h % (m + 1)) (SetTable.bits h)) k).j = j
  rw [e2]
  exact e
theorem in_table (m : Nat) (h : Int) (k : Nat) : way m h k ≤ m := by
  have r := runEnd_bd (m := m) (i := SetTable.bits h % (m + 1)) (Nat.le_of_lt_succ (Nat.mod_lt _ (Nat.succ_pos _)))
  have q := nth_in (m := m) k (runAt m (SetTable.bits h % (m + 1)) (SetTable.bits h)) (by
    unfold runAt
    dsimp only
    omega)
  exact Nat.le_trans (Nat.le_add_right _ _) q
/-- the table: each hash's slot is the first free one on its way -/
structure Tbl (t : SetTable) (hs : List Int) : Prop where
  ris : Ris t.place.toList
  dm : t.dummies = #[]
  sz : t.place.toList.length = hs.length
  msk : Msk t.mask
  bd : ∀ x ∈ t.place.toList, x ≤ t.mask
  on : ∀ p ∈ hs.zip t.place.toList, ∃ k, way t.mask p.1 k = p.2 ∧ ∀ k', k' < k → way t.mask p.1 k' ∈ t.place.toList
variable {t : SetTable} {hs : List Int}
theorem Tbl.gap (T : Tbl t hs) (hl : hs.length ≤ t.mask) (h : Int) : ∃ K, K < 10 * SetTable.turns t.mask ∧ way t.mask h K ∉ t.place.toList ∧ ∀ k, k < K → way t.mask h k ∈ t.place.toList := by
  obtain ⟨j, hj, hn⟩ := st_missing t.place.toList (t.mask + 1) (by rw [T.sz]; omega)
  obtain ⟨k, hk, e⟩ := T.msk.way h (Nat.le_of_lt_succ hj)
  obtain ⟨K, h1, h2, h3⟩ := st_least (p := fun k => way t.mask h k ∉ t.place.toList) k (fun z => hn (e ▸ z))
  exact ⟨K, by omega, h2, fun k' hk' => Classical.byContradiction fun z => h3 k' hk' z⟩
theorem zip_at {α β : Type} {xs : List α} {ys : List β} {i : Nat} {x : α} {y : β} (h1 : xs[i]? = some x) (h2 : ys[i]? = some y) : (x, y) ∈ xs.zip ys := List.mem_of_getElem? (i := i) (List.getElem?_zip_eq_some.mpr ⟨h1, h2⟩)
/-- a hash that isn't there: the probe ends at the gap -/
theorem Tbl.fresh (T : Tbl t hs) {hat : Nat → Int} (ha : ∀ i x, hs[i]? = some x → hat i = x) {h : Int} (hn : h ∉ hs) {K : Nat} (k1 : K < 10 * SetTable.turns t.mask) (k2 : way t.mask h K ∉ t.place.toList) (k3 : ∀ k, k < K → way t.mask h k ∈ t.place.toList) :
    t.probe hat h (t.probeStart h) = some (.empty (way t.mask h K) none) := by
  rcases go_spec t T.ris T.dm hat h (10 * SetTable.turns t.mask) K (t.probeStart h) rfl k1 k3 k2 with ⟨k, i, _, hi, e, _⟩ | ⟨_, e⟩
  · exfalso
    have hl := (List.getElem?_eq_some_iff.mp hi).1
    rw [T.sz] at hl
    have q := List.getElem?_eq_getElem hl
    rw [ha i _ q] at e
    exact hn (e ▸ List.getElem_mem hl)
  · exact e
/-- a hash that is there: the probe finds its place -/
theorem Tbl.found (T : Tbl t hs) (nd : hs.Nodup) (hl : hs.length ≤ t.mask) {hat : Nat → Int} (ha : ∀ i x, hs[i]? = some x → hat i = x) {h : Int} {i : Nat} (hi : hs[i]? = some h) :
    ∃ j next, t.place.toList[i]? = some j ∧ t.probe hat h (t.probeStart h) = some (.candidate j i next) := by
  obtain ⟨K, k1, k2, k3⟩ := T.gap hl h
  have il : i < t.place.toList.length := by
    rw [T.sz]
    exact (List.getElem?_eq_some_iff.mp hi).1
  have hj := List.getElem?_eq_getElem il
  obtain ⟨k0, e0, b0⟩ := T.on _ (zip_at hi hj)
  have lt0 : k0 < K := Classical.byContradiction fun z => by
    rcases Nat.lt_or_ge K k0 with c | c
    · exact k2 (b0 K c)
    · have : k0 = K := by omega
      subst this
      exact k2 (e0 ▸ List.getElem_mem il)
  rcases go_spec t T.ris T.dm hat h (10 * SetTable.turns t.mask) K (t.probeStart h) rfl k1 k3 k2 with ⟨k, i', _, hi', e, _, pr⟩ | ⟨hno, _⟩
  · have hl' := (List.getElem?_eq_some_iff.mp hi').1
    rw [T.sz] at hl'
    have q := List.getElem?_eq_getElem hl'
    rw [ha i' _ q] at e
    obtain ⟨a1, b1⟩ := List.getElem?_eq_some_iff.mp hi
    have : i' = i := (List.getElem_inj nd).mp (e.trans b1.symm)
    subst this
    exact ⟨_, _, hi', pr⟩
  · exact absurd (ha i _ hi) (hno k0 i lt0 (by rw [hj]; exact congrArg some e0.symm))
theorem zip_take_drop {α β : Type} : ∀ (p : Nat) (xs : List α) (ys : List β) (q : α × β), q ∈ (xs.take p).zip (ys.take p) ∨ q ∈ (xs.drop p).zip (ys.drop p) → q ∈ xs.zip ys
  | 0, xs, ys, q, h => by
    rcases h with h | h
    · cases h
    · exact h
  | p + 1, [], ys, q, h => by simp at h
  | p + 1, x :: xs, [], q, h => by simp at h
  | p + 1, x :: xs, y :: ys, q, h => by
    rw [List.zip_cons_cons, List.mem_cons]
    rcases h with h | h
    · rw [List.take_succ_cons, List.take_succ_cons, List.zip_cons_cons, List.mem_cons] at h
      rcases h with h | h
      · exact .inl h
      · exact .inr (zip_take_drop p xs ys q (.inl h))
    · exact .inr (zip_take_drop p xs ys q (.inr h))
theorem Tbl.put (T : Tbl t hs) {h : Int} {K : Nat} (k2 : way t.mask h K ∉ t.place.toList) (k3 : ∀ k, k < K → way t.mask h k ∈ t.place.toList) :
    SetTable.below t.place (way t.mask h K) ≤ hs.length ∧ Tbl (t.put (way t.mask h K)).1 (hs.take (SetTable.below t.place (way t.mask h K)) ++ h :: hs.drop (SetTable.below t.place (way t.mask h K))) := by
  have jm := in_table t.mask h K
  obtain ⟨j, ej⟩ : ∃ j, j = way t.mask h K := ⟨_, rfl⟩
  rw [← ej] at k2 jm ⊢
  have pl := (below_cut T.ris j).1
  rw [← Array.length_toList] at pl
  have ph : SetTable.below t.place j ≤ hs.length := T.sz ▸ pl
  have pp := put_place t j
  have nj : t.place[SetTable.below t.place j]? ≠ some j := fun e => k2 (List.mem_of_getElem? (by rw [Array.getElem?_toList]; exact e))
  have up : ∀ {x : Nat}, x ∈ t.place.toList → x ∈ (t.put j).1.place.toList := fun {x} hx => by
    rw [pp]
    exact mem_ins.2 (.inr hx)
  refine ⟨ph, ris_insert T.ris nj, put_dm T.dm j, ?_, T.msk, fun x hx => ?_, fun q hq => ?_⟩
  · rw [pp, len_ins _ pl, len_ins _ ph, T.sz]
  · rw [pp] at hx
    rcases mem_ins.1 hx with rfl | hx
    · exact jm
    · exact T.bd x hx
  · rw [pp] at hq
    show ∃ k, way t.mask q.1 k = q.2 ∧ ∀ k', k' < k → way t.mask q.1 k' ∈ (t.put j).1.place.toList
    rw [List.zip_append (by rw [List.length_take, List.length_take, T.sz]), List.zip_cons_cons, List.mem_append, List.mem_cons] at hq
    have old : q ∈ hs.zip t.place.toList → ∃ k, way t.mask q.1 k = q.2 ∧ ∀ k', k' < k → way t.mask q.1 k' ∈ (t.put j).1.place.toList := fun z => by
      obtain ⟨k, e, b⟩ := T.on q z
      exact ⟨k, e, fun k' hk' => up (b k' hk')⟩
    rcases hq with hq | rfl | hq
    · exact old (zip_take_drop _ _ _ _ (.inl hq))
    · exact ⟨K, ej.symm, fun k' hk' => up (k3 k' hk')⟩
    · exact old (zip_take_drop _ _ _ _ (.inr hq))
/-! ### laid anew -/
theorem spot {m : Nat} (hm : Msk m) (own : Array (Option Nat)) (h : Int) {j : Nat} (hj : j ≤ m) (hf : oAt own j = none) :
    ∃ K, SetTable.layClean.free m own (SetTable.turns m) (SetTable.bits h % (m + 1)) (SetTable.bits h) = some (way m h K) ∧ oAt own (way m h K) = none ∧ ∀ k, k < K → oAt own (way m h k) ≠ none := by
  obtain ⟨n, hn, e⟩ := hm.meets h hj
  have hw : way m h (off m (SetTable.bits h % (m + 1)) (SetTable.bits h) n) = j := by
    unfold L2.way
    rw [nth_off, itL_run]
    exact e
  obtain ⟨K, k1, k2, k3⟩ := st_least (p := fun k => oAt own (way m h k) = none) (off m (SetTable.bits h % (m + 1)) (SetTable.bits h) n) (show oAt own (way m h _) = none by rw [hw]; exact hf)
  refine ⟨K, free_spec m own (SetTable.turns m) n _ _ K (by unfold SetTable.turns; omega) k1 (fun k hk => ?_) ?_, k2, k3⟩
  · cases z : oAt own (nth m (runAt m (SetTable.bits h % (m + 1)) (SetTable.bits h)) k).j with
    | none => exact absurd z (k3 k hk)
    | some _ => rfl
  · rw [show oAt own (nth m (runAt m (SetTable.bits h % (m + 1)) (SetTable.bits h)) K).j = none from k2]
    rfl
theorem sit {m : Nat} (hm : Msk m) {done : List Int} {own : Array (Option Nat)} (W : L2.Own m done own) (hl : done.length ≤ m) (h : Int) :
    ∃ j, SetTable.layClean.free m own (SetTable.turns m) (SetTable.bits h % (m + 1)) (SetTable.bits h) = some j ∧ L2.Own m (done ++ [h]) (own.setIfInBounds j (some done.length)) := by
  obtain ⟨ps, p1, p2⟩ := W.ps
  obtain ⟨j0, h0, n0⟩ := st_missing ps (m + 1) (by omega)
  have f0 : oAt own j0 = none := Classical.byContradiction fun z => n0 (p2 j0 (Nat.le_of_lt_succ h0) z)
  obtain ⟨K, e1, e2, e3⟩ := spot hm own h (Nat.le_of_lt_succ h0) f0
  have jm := in_table m h K
  have self := oAt_set_self (some done.length) (show way m h K < own.size by rw [W.sz]; omega)
  have other : ∀ {i : Nat}, oAt own i ≠ none → oAt (own.setIfInBounds (way m h K) (some done.length)) i = oAt own i := fun {i} hi => oAt_set_ne _ fun z => hi (z ▸ e2)
  have taken : ∀ k', k' < K → oAt (own.setIfInBounds (way m h K) (some done.length)) (way m h k') ≠ none := fun k' hk' => by
    rw [other (e3 k' hk')]
    exact e3 k' hk'
  refine ⟨way m h K, e1, by rw [Array.size_setIfInBounds]; exact W.sz, fun j k hj e => ?_, fun k hk => ?_, way m h K :: ps, ?_, fun j hj e => ?_⟩
  · by_cases c : j = way m h K
    · rw [c, self] at e
      cases e
      exact ⟨h, K, List.getElem?_concat_length, c.symm, taken⟩
    · rw [oAt_set_ne _ c] at e
      obtain ⟨h', K', a1, a2, a3⟩ := W.at_ j k hj e
      refine ⟨h', K', ?_, a2, fun k' hk' => ?_⟩
      · rw [List.getElem?_append_left (List.getElem?_eq_some_iff.mp a1).1]
        exact a1
      · rw [other (a3 k' hk')]
        exact a3 k' hk'
  · rw [List.length_append, List.length_singleton] at hk
    rcases Nat.lt_or_ge k done.length with c | c
    · obtain ⟨j, hj, e⟩ := W.all k c
      exact ⟨j, hj, by rw [other (by rw [e]; exact Option.some_ne_none _)]; exact e⟩
    · have : k = done.length := by omega
      subst this
      exact ⟨way m h K, jm, self⟩
  · rw [List.length_cons, List.length_append, p1]
    rfl
  · rcases Classical.em (j = way m h K) with c | c
    · rw [c]
      exact List.mem_cons_self
    · rw [oAt_set_ne _ c] at e
      exact List.mem_cons_of_mem _ (p2 j hj e)
theorem sits {m : Nat} (hm : Msk m) : ∀ (rest done : List Int) (own : Array (Option Nat)), L2.Own m done own → done.length + rest.length ≤ m → ∃ own', rest.foldl (stepF m) (some (own, done.length)) = some (own', (done ++ rest).length) ∧ L2.Own m (done ++ rest) own'
  | [], done, own, W, _ => ⟨own, by rw [List.append_nil, List.foldl_nil], by rw [List.append_nil]; exact W⟩
  | h :: rest, done, own, W, hl => by
    rw [List.length_cons] at hl
    obtain ⟨j, e, W1⟩ := sit hm W (by omega) h
    obtain ⟨own', f, W2⟩ := sits hm rest (done ++ [h]) _ W1 (by rw [List.length_append, List.length_singleton]; omega)
    rw [List.append_assoc, List.singleton_append] at W2
    rw [List.append_assoc, List.singleton_append, List.length_append, List.length_singleton] at f
    exact ⟨own', by rw [List.foldl_cons, stepF_some e]; exact f, W2⟩
/-- the new table -/
theorem anew (t : SetTable) {hs : Array Int} {want M : Nat} (hw : SetTable.sizeAbove want - 1 = M) (hM : Msk M) (hn : hs.size ≤ M) :
    ∃ t' order, t.relaid hs want = some (t', order) ∧ order.toList.Perm (List.range hs.size) ∧ Tbl t' (order.toList.map fun i => hs.getD i 0) ∧ t'.mask = M ∧ t'.led = t.led ∧ t'.plain = t.plain := by
  obtain ⟨own, f, W⟩ := sits hM hs.toList [] _ (L2.Own.init M) (by show 0 + hs.size ≤ M; omega)
  rw [List.nil_append] at W f
  have f' : SetTable.layClean M hs = some own := by
    rw [layClean_eq]
    have f2 : hs.toList.foldl (stepF M) (some (Array.replicate (M + 1) none, 0)) = _ := f
    rw [f2]
    rfl
  have fr : t.relaid hs want = some (tabOf t M own, ((liveOf M own).map (·.2)).toArray) := by
    rw [relaid_eq, hw, f']
    rfl
  obtain ⟨r1, r2⟩ := ris_live (fun j => own.getD j none) (List.range (M + 1)) List.pairwise_lt_range
  have r1 : Ris ((liveOf M own).map (·.1)) := r1
  have r2 : ∀ x ∈ (liveOf M own).map (·.1), x ∈ List.range (M + 1) := r2
  have mem : ∀ j k, (j, k) ∈ liveOf M own ↔ j ≤ M ∧ oAt own j = some k := fun j k => mem_live W.sz
  have all : ∀ k, k < hs.size → k ∈ (liveOf M own).map (·.2) := fun k hk => by
    obtain ⟨j, a1, a2⟩ := W.all k hk
    exact List.mem_map.mpr ⟨(j, k), (mem j k).2 ⟨a1, a2⟩, rfl⟩
  have len : (liveOf M own).length = hs.size := by
    obtain ⟨ps, p1, p2⟩ := W.ps
    have nd : ((liveOf M own).map (·.1)).Nodup := List.Pairwise.imp (fun h => Nat.ne_of_lt h) r1
    have a := nat_nodup_len ((liveOf M own).map (·.1)) ps nd fun x hx => by
      obtain ⟨⟨y, k⟩, hq, rfl⟩ := List.mem_map.mp hx
      obtain ⟨b1, b2⟩ := (mem y k).1 hq
      exact p2 y b1 (by rw [b2]; exact Option.some_ne_none _)
    have b := nat_nodup_len (List.range hs.size) ((liveOf M own).map (·.2)) List.nodup_range fun k hk => all k (List.mem_range.mp hk)
    rw [List.length_map, p1] at a
    have z : hs.toList.length = hs.size := rfl
    rw [List.length_map, List.length_range] at b
    omega
  refine ⟨tabOf t M own, _, fr, perm_range hs.size _ (by rw [List.length_map]; exact len) all, ⟨r1, rfl, ?_, hM, fun x hx => Nat.le_of_lt_succ (List.mem_range.mp (r2 x hx)), fun q hq => ?_⟩, rfl, rfl, rfl⟩
  · show ((liveOf M own).map (·.1)).length = (((liveOf M own).map (·.2)).map _).length
    rw [List.length_map, List.length_map, List.length_map]
  · have hq : q ∈ (((liveOf M own).map (·.2)).map fun i => hs.getD i 0).zip ((liveOf M own).map (·.1)) := hq
    rw [List.map_map, List.zip_map'] at hq
    obtain ⟨⟨j, k⟩, hm, rfl⟩ := List.mem_map.mp hq
    obtain ⟨b1, b2⟩ := (mem j k).1 hm
    obtain ⟨h0, K, a1, a2, a3⟩ := W.at_ j k b1 b2
    have e0 : hs.getD k 0 = h0 := by
      rw [Array.getD_eq_getD_getElem?, ← Array.getElem?_toList, a1]
      rfl
    show ∃ n, way M (hs.getD k 0) n = j ∧ ∀ n', n' < n → way M (hs.getD k 0) n' ∈ (liveOf M own).map (·.1)
    rw [e0]
    refine ⟨K, a2, fun k' hk' => ?_⟩
    cases z : oAt own (way M h0 k') with
    | none => exact absurd z (a3 k' hk')
    | some n => exact List.mem_map.mpr ⟨(_, n), (mem _ n).2 ⟨in_table M h0 k', z⟩, rfl⟩
theorem size_5 : SetTable.sizeAbove (SetTable.grown 5) = 32 := by decide +kernel
theorem size_19 : SetTable.sizeAbove (SetTable.grown 19) = 128 := by decide +kernel
theorem size_77 : SetTable.sizeAbove (SetTable.grown 77) = 512 := by decide +kernel
end KB
end
section
set_option linter.all false
set_option maxRecDepth 100000
set_option maxHeartbeats 4000000
namespace KB
open PySem PySem.Spec PyProof.Rows L2
section
variable {P : Program} {w : World} {A : Around} {E : Value → Shared → Prop} {s : Shared}
abbrev hz (P : Program) (w : World) (L : List (Addr × List Int)) : List Int := L.map fun p => thash P w p.2
/-- the set at a: the rows L, hashes apart -/
structure BigR (P : Program) (w : World) (h : Heap) (a : Addr) (L : List (Addr × List Int)) (es : Array (Int × Value)) (ep : Nat) (t : SetTable) : Prop where
  ob : ∃ o, h.get? a = some o ∧ o.ExactSet ∧ o.data = .set es ep t
  rows : es.toList = rowsOf P w L
  tab : Tbl t (hz P w L)
  nd : (hz P w L).Nodup
  plain : t.plain = true
  led : w.params.followText "set-order" = true ∨ t.led = true
  room : L.length * 5 < t.mask * 3
variable {a : Addr} {L : List (Addr × List Int)} {es : Array (Int × Value)} {ep : Nat} {t : SetTable}
theorem BigR.size (R : BigR P w s.heap a L es ep t) : es.size = L.length := by
  have q := congrArg List.length R.rows
  unfold rowsOf at q
  rw [List.length_map] at q
  exact q
theorem BigR.fits (R : BigR P w s.heap a L es ep t) : t.fits es.size = true := by
  have h1 := R.tab.sz
  rw [List.length_map] at h1
  have h1 : t.place.size = L.length := h1
  have h2 := R.size
  have h3 := R.room
  unfold SetTable.fits SetTable.fill
  rw [R.tab.dm, Bool.and_eq_true, beq_iff_eq, decide_eq_true_eq]
  show t.place.size = es.size ∧ t.place.size + 0 ≤ t.mask
  omega
theorem BigR.ent (R : BigR P w s.heap a L es ep t) {i : Nat} {p : Addr × List Int} (h : L[i]? = some p) : es[i]? = some (thash P w p.2, Value.ref p.1) := by
  rw [← Array.getElem?_toList, R.rows]
  unfold rowsOf
  rw [List.getElem?_map, h]
  rfl
theorem BigR.hat (R : BigR P w s.heap a L es ep t) (i : Nat) (x : Int) (h : (hz P w L)[i]? = some x) : (fun i => (es[i]?.map (·.1)).getD 0) i = x := by
  rw [List.getElem?_map] at h
  obtain ⟨p, hp, rfl⟩ := Option.map_eq_some_iff.mp h
  show (es[i]?.map (·.1)).getD 0 = _
  rw [R.ent hp]
  rfl
theorem BigR.gw (R : BigR P w s.heap a L es ep t) : ¬ t.gaveWay = true := by
  unfold SetTable.gaveWay
  rw [R.tab.msk.odd]
  decide
theorem BigR.le (R : BigR P w s.heap a L es ep t) : (hz P w L).length ≤ t.mask := by
  have := R.room
  rw [List.length_map]
  omega
theorem BigR.keep {h h' : Heap} (R : BigR P w h a L es ep t) (ha : ∀ o, h.get? a = some o → h'.get? a = some o) : BigR P w h' a L es ep t := by
  obtain ⟨o, ho, r⟩ := R.ob
  exact ⟨⟨o, ha o ho, r⟩, R.rows, R.tab, R.nd, R.plain, R.led, R.room⟩
/-- a row that isn't in: the search ends at a free slot -/
theorem miss (R : BigR P w s.heap a L es ep t) {x : Value} {h : Int} (hn : h ∉ hz P w L) {ad : Bool} {Q : SetFound → Shared → Prop}
    (k : ∀ K, way t.mask h K ∉ t.place.toList → (∀ c, c < K → way t.mask h c ∈ t.place.toList) → Q (.free (way t.mask h K) false) s) : wpAny (model P w) A (setSearch a x h ad) Q E s := by
  obtain ⟨o, ho, _, hd⟩ := R.ob
  obtain ⟨K, k1, k2, k3⟩ := R.tab.gap R.le h
  unfold setSearch
  rw [show (100000 : Nat) = 99999 + 1 from rfl, setSearchFrom_succ]
  refine wpAny_bind (wpAny_setState_of ho hd R.fits ?_)
  dsimp only
  refine wp_if_neg R.gw ?_
  try refine wpAny_bind (wpAny_pure ?_)
  rw [show (none : Option SetTable.Probe).getD (t.probeStart h) = t.probeStart h from rfl, R.tab.fresh R.hat hn k1 k2 k3]
  dsimp only
  exact wpAny_pure (k K k2 k3)
/-- a row that is in is found -/
theorem hit (R : BigR P w s.heap a L es ep t) {x : Addr} {k : List Int} (hx : IsT P w s.heap k x) (ht : ∀ p ∈ L, IsT P w s.heap p.2 p.1) (hm : k ∈ L.map (·.2)) (hu : A.units < cLine) {Q : SetFound → Shared → Prop} (q : ∀ i, Q (.there (some i)) s) :
    wpAny (model P w) A (setSearch a (.ref x) (thash P w k) false) Q E s := by
  obtain ⟨o, ho, _, hd⟩ := R.ob
  obtain ⟨p, hp, rfl⟩ := List.mem_map.mp hm
  obtain ⟨i, hi, ei⟩ := List.getElem_of_mem hp
  have hi' : L[i]? = some p := by rw [List.getElem?_eq_getElem hi, ei]
  obtain ⟨j, next, hj, pr⟩ := R.tab.found R.nd R.le R.hat (h := thash P w p.2) (i := i) (by rw [List.getElem?_map, hi']; rfl)
  unfold setSearch
  rw [show (100000 : Nat) = 99999 + 1 from rfl, setSearchFrom_succ]
  refine wpAny_bind (wpAny_setState_of ho hd R.fits ?_)
  dsimp only
  refine wp_if_neg R.gw ?_
  try refine wpAny_bind (wpAny_pure ?_)
  rw [show (none : Option SetTable.Probe).getD (t.probeStart (thash P w p.2)) = t.probeStart (thash P w p.2) from rfl, pr]
  dsimp only
  have rest : wpAny (model P w) A (searchRest a (.ref x) (thash P w p.2) false 99999 es t j i next) Q E s := by
    unfold searchRest
    rw [R.ent hi']
    dsimp only
    refine wpAny_bind (wpAny_holding (wpAny_eqBool_tuple hu (ht p hp) hx ?_))
    refine wpAny_bind (wpAny_setState_of ho hd R.fits ?_)
    dsimp only
    refine wp_if_neg (by simp) ?_
    try refine wpAny_bind (wpAny_pure ?_)
    rw [sameMem]
    dsimp only
    simp only [if_true, slot_live R.tab.ris hj, R.ent hi']
    refine wpAny_bind (wpAny_isSame_ref_self (wpAny_bind (wpAny_pure ?_)))
    simp only [if_true]
    refine wp_if_pos (by simp) ?_
    exact wpAny_pure (q i)
  by_cases hl : t.led = true
  · refine wp_if_neg (by simp [hl]) ?_
    try refine wpAny_bind (wpAny_pure ?_)
    exact rest
  · refine wp_if_pos (by simp [hl]) ?_
    refine wpAny_bind (seen_tup hx (fun y hy => ?_) ?_)
    · obtain ⟨e, he, ee⟩ := List.mem_map.mp hy
      have he2 : e ∈ es.toList := by simpa using (show e ∈ es ∧ e.1 = thash P w p.2 by simpa using he).1
      rw [R.rows] at he2
      obtain ⟨p2, hp2, e2⟩ := List.mem_map.mp he2
      exact ⟨p2.2, p2.1, by rw [← ee, ← e2], ht p2 hp2⟩
    · refine wp_if_neg (by decide) ?_
      try refine wpAny_bind (wpAny_pure ?_)
      exact rest
/-- the table laid anew, larger -/
theorem relay {o : Obj} (ho : s.heap.get? a = some o) (hex : o.ExactSet) (hd : o.data = .set es ep t) (hrows : es.toList = rowsOf P w L) (hsz : t.place.size = es.size) (hdm : t.dummies = #[]) (hfl : es.size ≤ t.mask)
    (nd : (hz P w L).Nodup) (pl : t.plain = true) (ld : w.params.followText "set-order" = true ∨ t.led = true) (few : L.length ≤ 300) {wanted M : Nat}
    (hw : SetTable.sizeAbove wanted - 1 = M) (hM : Msk M) (hn : L.length * 5 < M * 3) {Q : Unit → Shared → Prop}
    (hQ : ∀ h' L' es' ep' t', Heap.SameBut a s.heap h' → BigR P w h' a L' es' ep' t' → L'.Perm L → Q () { s with heap := h' }) : wpAny (model P w) A (setRelay a wanted) Q E s := by
  have hsl : es.size = L.length := by
    have q := congrArg List.length hrows
    unfold rowsOf at q
    rw [List.length_map] at q
    exact q
  have hM511 := hM.le
  have hfits : t.fits es.size = true := by
    unfold SetTable.fits SetTable.fill
    rw [hdm, Bool.and_eq_true, beq_iff_eq, decide_eq_true_eq]
    show t.place.size = es.size ∧ t.place.size + 0 ≤ t.mask
    omega
  obtain ⟨t', order, e, hp, T, em, el, epl⟩ := anew t (hs := es.map (·.1)) hw hM (by rw [Array.size_map, hsl]; omega)
  rw [Array.size_map, hsl] at hp
  obtain ⟨L2, r1, r2, r3⟩ := order_rows L es order hrows hp
  rw [← r3] at T
  have hs2 : (order.filterMap (es[·]?)).size = es.size := by
    have q := congrArg List.length r1
    unfold rowsOf at q
    rw [List.length_map, r2.length_eq] at q
    rw [hsl]
    exact q
  rw [setRelay_eq]
  refine wpAny_bind (wpAny_setState_of ho hd hfits ?_)
  dsimp only
  refine wp_if_neg (by rw [sizeLine_eq]; omega) ?_
  try refine wpAny_bind (wpAny_pure ?_)
  rw [e]
  dsimp only
  refine wpAny_bind ?_
  refine wp_if_neg (by rw [hs2]; simp) ?_
  try refine wpAny_bind (wpAny_pure ?_)
  refine wpAny_pure ?_
  dsimp only
  refine wpAny_storeSet_of ho hd ?_ (by rw [hs2, hsl, sizeLine_eq]; omega)
  refine hQ _ L2 (order.filterMap (es[·]?)) (ep + 1) t' (Heap.SameBut.update ..) ⟨⟨_, store_at ho hd, ⟨hex.1, hex.2.1, hex.2.2⟩, rfl⟩, r1, T, ?_, by rw [epl]; exact pl, by rw [el]; exact ld, by rw [r2.length_eq, em]; exact hn⟩ r2
  exact (r2.map _).nodup_iff.mpr nd
/-- a row is put in -/
theorem insert (R : BigR P w s.heap a L es ep t) {x : Addr} {k : List Int} (hx : IsT P w s.heap k x) (hnew : thash P w k ∉ hz P w L) (few : L.length + 1 ≤ 300) {Q : Bool → Shared → Prop}
    (hQ : ∀ b h' L' es' ep' t', Heap.SameBut a s.heap h' → BigR P w h' a L' es' ep' t' → L'.Perm ((x, k) :: L) → Q b { s with heap := h' }) : wpAny (model P w) A (setAddHashed a (.ref x) (thash P w k)) Q E s := by
  obtain ⟨o, ho, hex, hd⟩ := R.ob
  have hsl := R.size
  have room := R.room
  unfold setAddHashed
  refine wpAny_holding ?_
  rw [show (100000 : Nat) = 99999 + 1 from rfl, setAddHashedIn_succ]
  refine wpAny_bind (wpAny_setState_of ho hd R.fits ?_)
  dsimp only
  refine wp_if_neg (by simp [byScan, Value.scannable]) ?_
  try refine wpAny_bind (wpAny_pure ?_)
  refine wpAny_bind (miss R hnew fun K k2 k3 => ?_)
  dsimp only
  refine wpAny_bind (wpAny_setState_of ho hd R.fits ?_)
  dsimp only
  obtain ⟨q2, q3⟩ := R.tab.put k2 k3
  generalize hj : way t.mask (thash P w k) K = j at q2 q3 ⊢
  have e1 : (t.put j).2 = SetTable.below t.place j := rfl
  have hp1 : (t.put j).1.plain = true := R.plain
  have hled : (t.put j).1.led = t.led := rfl
  have hmask : (t.put j).1.mask = t.mask := rfl
  generalize hpt : t.put j = pt at q3 e1 hp1 hled hmask ⊢
  obtain ⟨t1, p⟩ := pt
  dsimp only at q3 e1 hp1 hled hmask ⊢
  rw [← e1] at q2 q3
  first
    | (refine wpAny_bind ?_; refine wp_if_pos hp1 ?_; refine hashBy_tup hx ?_)
    | refine wp_if_pos hp1 (wpAny_bind (hashBy_tup hx ?_))
  simp only [if_true]
  have hin : (SetTable.insertAt es p (thash P w k, Value.ref x)).toList = rowsOf P w (L.take p ++ (x, k) :: L.drop p) := by
    rw [SetTable.toList_insertAt, rows_put, R.rows]
  have pm := put_perm L p (x, k)
  have hlen : (L.take p ++ (x, k) :: L.drop p).length = L.length + 1 := pm.length_eq
  have hhs : hz P w (L.take p ++ (x, k) :: L.drop p) = (hz P w L).take p ++ thash P w k :: (hz P w L).drop p := by
    unfold hz
    rw [List.map_append, List.map_cons, List.map_take, List.map_drop]
  rw [← hhs] at q3
  have nd1 : (hz P w (L.take p ++ (x, k) :: L.drop p)).Nodup := (pm.map _).nodup_iff.mpr (List.nodup_cons.mpr ⟨hnew, R.nd⟩)
  have hes : (SetTable.insertAt es p (thash P w k, Value.ref x)).size = L.length + 1 := by
    have q := congrArg List.length hin
    unfold rowsOf at q
    rw [List.length_map, hlen] at q
    exact q
  generalize SetTable.insertAt es p (thash P w k, Value.ref x) = es1 at hin hes ⊢
  generalize L.take p ++ (x, k) :: L.drop p = L1 at pm hlen q3 nd1 hin
  refine wpAny_bind (wpAny_storeSet_of ho hd ?_ (by rw [hes, sizeLine_eq]; omega))
  have sb : Heap.SameBut a s.heap (s.heap.update a (Obj.putSet es1 t1)) := Heap.SameBut.update ..
  have ho1 := store_at (es' := es1) (t' := t1) ho hd
  generalize s.heap.update a (Obj.putSet es1 t1) = h1 at sb ho1 ⊢
  have ld1 : w.params.followText "set-order" = true ∨ t1.led = true := by rw [hled]; exact R.led
  have sz1 : t1.place.size = L.length + 1 := by
    have q := q3.sz
    rw [List.length_map, hlen] at q
    exact q
  have fill : t1.fill = L.length + 1 := by
    unfold SetTable.fill
    rw [q3.dm, sz1]
    rfl
  by_cases hf : t1.tooFull = true
  · first
      | (refine wpAny_bind ?_; refine wp_if_pos (by simp [hf]) ?_)
      | (refine wp_if_pos (by simp [hf]) ?_; refine wpAny_bind ?_)
    have full : (L.length + 1) * 5 ≥ t.mask * 3 := by
      have q := hf
      unfold SetTable.tooFull at q
      rw [decide_eq_true_eq, fill, hmask] at q
      exact q
    rw [hsl]
    have go : ∀ M, SetTable.sizeAbove (SetTable.grown (L.length + 1)) - 1 = M → Msk M → (L.length + 1) * 5 < M * 3 → wpAny (model P w) A (setRelay a (SetTable.grown (L.length + 1))) (fun _ s' => wpAny (model P w) A (pure true) Q E s') E { s with heap := h1 } := fun M m1 m2 m3 => by
      refine relay (s := { s with heap := h1 }) ho1 ⟨hex.1, hex.2.1, hex.2.2⟩ rfl hin (by rw [sz1, hes]) q3.dm (by rw [hes, hmask]; omega) nd1 hp1 ld1 (by rw [hlen]; exact few) m1 m2 (by rw [hlen]; exact m3) fun h2 L2 es2 ep2 t2 sb2 R2 pm2 => ?_
      exact wpAny_pure (hQ true h2 L2 es2 ep2 t2 (sb.trans sb2) R2 (pm2.trans pm))
    rcases R.tab.msk with (e | e | e) | e <;> rw [e] at full room
    · have : L.length = 4 := by omega
      exact go 31 (by rw [this, size_5]) (.inl (.inr (.inl rfl))) (by omega)
    · have : L.length = 18 := by omega
      exact go 127 (by rw [this, size_19]) (.inl (.inr (.inr rfl))) (by omega)
    · have : L.length = 76 := by omega
      exact go 511 (by rw [this, size_77]) (.inr rfl) (by omega)
    · exfalso
      omega
  · first
      | refine wp_if_neg (by simp [hf]) ?_
      | (refine wpAny_bind ?_; refine wp_if_neg (by simp [hf]) ?_; refine wpAny_pure ?_)
    refine wpAny_pure (hQ true h1 L1 es1 (ep + 1) t1 sb ⟨⟨_, ho1, ⟨hex.1, hex.2.1, hex.2.2⟩, rfl⟩, hin, q3, nd1, hp1, ld1, ?_⟩ pm)
    have q := hf
    unfold SetTable.tooFull at q
    rw [decide_eq_true_eq, fill] at q
    rw [hlen]
    omega
theorem bigR_fresh {h : Heap} {a : Addr} (ho : h.get? a = some { cls := .type "set", dict := none, data := .set #[] 0 (.fresh 0 0 (!w.params.followText "set-order")) }) : BigR P w h a [] #[] 0 (.fresh 0 0 (!w.params.followText "set-order")) where
  ob := ⟨_, ho, ⟨rfl, rfl, rfl⟩, rfl⟩
  rows := rfl
  tab := ⟨List.Pairwise.nil, rfl, rfl, .inl (.inl rfl), fun x hx => (by cases hx), fun q hq => (by cases hq)⟩
  nd := List.nodup_nil
  plain := rfl
  led := by
    show _ ∨ (!w.params.followText "set-order") = true
    cases w.params.followText "set-order"
    · exact .inr rfl
    · exact .inl rfl
  room := by
    show 0 * 5 < 7 * 3
    decide
end
end KB
end
section
set_option linter.all false
set_option maxRecDepth 100000
set_option maxHeartbeats 4000000
namespace KB
open PySem PySem.Spec PyProof.Rows L2
section
variable {P : Program} {w : World} {A : Around} {E : Value → Shared → Prop} {s : Shared}
theorem next_new {ks L : List (Addr × List Int)} {i : Nat} {p : Addr × List Int} (nd : (hz P w ks).Nodup) (pm : L.Perm (ks.take i)) (h : ks[i]? = some p) : thash P w p.2 ∉ hz P w L ∧ ((p.1, p.2) :: L).Perm (ks.take (i + 1)) := by
  constructor
  · intro hm
    have hm2 : thash P w p.2 ∈ hz P w (ks.take i) := (pm.map _).mem_iff.mp hm
    unfold hz at hm2
    rw [List.map_take] at hm2
    obtain ⟨m, hm3, e⟩ := List.getElem_of_mem hm2
    rw [List.length_take] at hm3
    rw [List.getElem_take] at e
    obtain ⟨a2, b2⟩ := List.getElem?_eq_some_iff.mp (show (hz P w ks)[i]? = some (thash P w p.2) by rw [List.getElem?_map, h]; rfl)
    have := (List.getElem_inj nd).mp (e.trans b2.symm)
    omega
  · rw [take_next h]
    exact (List.Perm.cons p pm).trans (List.perm_append_singleton p _).symm
/-- the loop that fills a set -/
theorem filling {I : Addr} {fp wr : List Addr} {G : Array GenState → Array GenState → Prop} {n : Nat} {Pv : Nat → Value → Prop} {St : Nat → Shared → Prop} {R : Result → Shared → Prop}
    (W : WalksS P w A.in1 I fp wr G n Pv St) (S : Addr) (sf : S ∉ fp) (ks : List (Addr × List Int)) (en : n = ks.length) (few : ks.length ≤ 300) (nd : (hz P w ks).Nodup) (val : ∀ i v, Pv i v → ∃ p, ks[i]? = some p ∧ v = .ref p.1)
    (h0 : Heap) (hk : ∀ p ∈ ks, IsT P w h0 p.2 p.1) (nS : h0.get? S = none) (nw : ∀ b ∈ wr, h0.get? b = none) (hu : A.in1.units < cLine) :
    ∀ (k i : Nat) (s : Shared), n - i = k → i ≤ n → St i s → (∀ b o, h0.get? b = some o → s.heap.get? b = some o) → (∃ L es ep t, BigR P w s.heap S L es ep t ∧ L.Perm (ks.take i)) →
      (∀ s' L es ep t, Moved (S :: wr) G s s' → BigR P w s'.heap S L es ep t → L.Perm (ks.take n) → (∀ b o, h0.get? b = some o → s'.heap.get? b = some o) → R (.ok (.ret .none)) s') →
      codeAny (model P w) A (.builtin "set.update.loop" ⟨[.ref S, .ref I], []⟩) R s := by
  have sw : S ∉ wr := fun z => sf (W.sub _ z)
  have wide : ∀ b ∈ wr, b ∈ S :: wr := fun b hb => List.mem_cons_of_mem _ hb
  have still : ∀ {s s' : Shared}, Moved wr G s s' → (∀ b o, h0.get? b = some o → s.heap.get? b = some o) → ∀ b o, h0.get? b = some o → s'.heap.get? b = some o := fun m q b o e =>
    m.heap b o (fun z => by rw [nw b z] at e; cases e) (q b o e)
  intro k
  induction k with
  | zero =>
    intro i s ek hi st q ⟨L, es, ep, t, hB, pm⟩ hR
    obtain rfl : i = n := by omega
    refine codeAny_builtin F.entry_set_update_loop ?_
    rw [Around.under_plainId F.plain_set_update_loop _]
    show wpAny _ A.in1 (pyNext (.ref I) >>= _) _ _ s
    refine wpAny_bind (W.done s _ _ st fun s' m => ?_)
    show wpAny _ A.in1 (ret Value.none) _ _ s'
    exact wpAny_pure (hR s' L es ep t (m.mono wide) (hB.keep fun o e => m.heap S o sw e) pm (still m q))
  | succ k ih =>
    intro i s ek hi st q ⟨L, es, ep, t, hB, pm⟩ hR
    have lt : i < n := by omega
    refine codeAny_builtin F.entry_set_update_loop ?_
    rw [Around.under_plainId F.plain_set_update_loop _]
    show wpAny _ A.in1 (pyNext (.ref I) >>= _) _ _ s
    refine wpAny_bind (W.item i s _ _ lt st fun v s' hP st' m => ?_)
    obtain ⟨p, hp, rfl⟩ := val i v hP
    have q' := still m q
    have hB' : BigR P w s'.heap S L es ep t := hB.keep fun o e => m.heap S o sw e
    have hx : IsT P w s'.heap p.2 p.1 := isT_keep (hk p (List.mem_of_getElem? hp)) q'
    obtain ⟨hnew, pm'⟩ := next_new nd pm hp
    have hlen : L.length ≤ i := by
      rw [pm.length_eq, List.length_take]
      omega
    show wpAny _ A.in1 (holding [Value.ref p.1] (setAdd S (.ref p.1)) >>= _) _ _ s'
    refine wpAny_bind (wpAny_holding ?_)
    unfold setAdd
    refine wpAny_holding ?_
    refine wpAny_bind (wpAny_pyHash_tuple hu hx ?_)
    refine insert (s := { s' with toks := s'.toks + (p.2.length + 1) }) hB' hx hnew (by omega) fun b h' L' es' ep' t' sb hB2 pm2 => ?_
    have q2 : ∀ b o, h0.get? b = some o → h'.get? b = some o := fun b o e => (sb.2 b (fun z => by rw [z, nS] at e; cases e)).trans (q' b o e)
    refine wpAny_pure ⟨plainId_quiet F.plain_set_update_loop _, ih (i + 1) _ (by omega) lt (W.frame _ s' _ _ st' (Nat.le_add_right _ _) fun b hb o e => ?_) q2 ⟨L', es', ep', t', hB2, pm2.trans pm'⟩ fun s'' L2 es2 ep2 t2 m2 hB3 pm3 q3 => ?_⟩
    · rw [sb.2 b (fun z : b = S => sf (z ▸ hb))]
      exact e
    · refine hR s'' L2 es2 ep2 t2 (Moved.trans W.gtrans ((m.mono wide).then_heap (Nat.le_add_right _ _) fun b o hb e => ?_) m2) hB3 pm3 q3
      rw [sb.2 b (fun z : b = S => hb (z ▸ List.mem_cons_self))]
      exact e
/-- what set() puts on the heap -/
abbrev newB (w : World) : Obj := { cls := .type "set", dict := none, data := .set #[] 0 (.fresh 0 0 (!w.params.followText "set-order")) }
set_option maxHeartbeats 8000000 in
/-- set(xs): what the filling reaches is what the call reaches -/
theorem set_frame {l : Addr} {items : Array Value} (Ψ : Heap → Prop) {Q : Value → Shared → Prop} (hl : s.heap.IsList l items)
    (fill : ∀ (R : Result → Shared → Prop), (∀ s', s'.gens = s.gens → s'.drawn = s.drawn → s'.os = s.os → Ψ s'.heap → (∀ b o, s.heap.get? b = some o → s'.heap.get? b = some o) → R (.ok (.ret .none)) s') →
      codeAny (model P w) A.in1.in1 (.builtin "set.update.loop" ⟨[.ref s.heap.objs.size, .ref (s.heap.push (newB w)).objs.size], []⟩) R { s with heap := (s.heap.push (newB w)).push { cls := .type "list_iterator", data := .fields #[.ref l, .int 0 0] } })
    (h : ∀ (h' : Heap) (tk : Nat), Ψ h' → (∀ b o, s.heap.get? b = some o → h'.get? b = some o) → Q (.ref s.heap.objs.size) { s with heap := h', toks := tk }) :
    wpAny (model P w) A (call (.type "set") [.ref l]) Q E s := by
  obtain ⟨c, tl, hmro⟩ := F.called_set.mro
  have hmade := F.called_set.made
  have hsub := F.called_set.sub
  refine wpAny_call (codeAny_of_tree ?_)
  show wpAny _ _ (callAny (.type "set") _) _ _ _
  refine wpAny_pure ⟨Code.quiet_builtin _ (by decide +kernel), codeAny_builtin F.entry_type_call ?_⟩
  rw [Around.under_plain (weight_type_call_type "set" [.ref l] []) rfl]
  have h1 := F.called_set.notType
  have h2 := F.called_set.canCreate
  have hct := F.typeCall_set_1 (.ref l)
  repeat (any_goals (first | assumption | wp_step))
  refine codeAny_mono (code_set_led1 (.ref l) (E := E) (Q₁ := fun obj s₁ => obj = .ref s.heap.objs.size ∧ s₁ = { s with heap := s.heap.push (newB w) }) ⟨rfl, rfl⟩) fun r s₁ hr => ?_
  cases r with
  | error e => exact hr
  | ok fl =>
    cases fl with
    | ret obj =>
      obtain ⟨rfl, rfl⟩ := hr
      have hS : (s.heap.push (newB w)).get? s.heap.objs.size = some (newB w) := Heap.get?_push_size _ rfl
      have hT : Shared.TypeIs { s with heap := s.heap.push (newB w) } (.ref s.heap.objs.size) "set" := ⟨_, hS, rfl⟩
      have hli := F.called_set.init.lookup
      have hbi := F.called_set.init.bind (.ref s.heap.objs.size)
      repeat (any_goals (first | assumption | wp_step))
      refine codeAny_mono (codeAny_call_builtin (R := wants (fun r s₂ => r = .none ∧ ∃ h' tk, s₂ = { s with heap := h', toks := tk } ∧ Ψ h' ∧ (∀ b o, s.heap.get? b = some o → h'.get? b = some o)) E) F.called_set.init.plain F.entry_set_init (check_set_init_1 hT ?_)) fun r₂ s₂ hr₂ => ?_
      · obtain ⟨ol, hol, hcl, nl, hdl⟩ := hl
        obtain ⟨ocls, odict, odata, oslots⟩ := ol
        simp only at hcl hdl
        subst hcl; subst hdl
        have hol' : (s.heap.push (newB w)).get? l = some { cls := .type "list", dict := odict, data := .seq items nl, slots := oslots } := Heap.get?_push_of_some _ hol
        have hsls := F.sub_list_set
        have hslf := F.sub_list_frozenset
        have hne : (Value.type "list" == Value.type "dict") = false := by decide
        have hl1 : (s.heap.push (newB w)).IsList l items := ⟨_, hol', rfl, nl, rfl⟩
        unfold Builtin.«set.__init__» noKeywords Builtin.Frozenset.updateFrom
        generalize hPI : pyIter = PI
        wp_walk
        subst hPI
        refine wpAny_pyIter_list hl1 ?_
        refine wpAny_bind (wpAny_runValue ?_)
        refine fill _ fun s' eg ed eo hp hk => ?_
        obtain ⟨h', g2, d', tk', os'⟩ := s'
        have eg : g2 = s.gens := eg
        have ed : d' = s.drawn := ed
        have eo : os' = s.os := eo
        subst eg; subst ed; subst eo
        show wpAny _ _ _ _ _ _
        refine wpAny_pure ?_
        show wpAny _ _ (ret Value.none) _ _ _
        exact wpAny_pure ⟨rfl, h', tk', rfl, hp, hk⟩
      · cases r₂ with
        | error e => exact hr₂
        | ok fl₂ =>
          cases fl₂ with
          | ret r =>
            obtain ⟨rfl, h', tk, rfl, hp, hk⟩ := hr₂
            repeat (any_goals (first | assumption | wp_step))
            exact h _ _ hp hk
          | _ => exact hr₂.elim
    | _ => exact hr.elim
theorem gone_of {b : Addr} (hb : s.heap.objs.size ≤ b) : s.heap.get? b = none := by
  cases q : s.heap.get? b with
  | none => rfl
  | some o => exact absurd (Nat.lt_of_lt_of_le (Heap.lt_size q) hb) (Nat.lt_irrefl _)
theorem call_setB {l : Addr} {items : Array Value} (ks : List (Addr × List Int)) {Q : Value → Shared → Prop} (hh : A.handled = none) (hl : s.heap.IsList l items) (hit : items.toList = ks.map fun p => Value.ref p.1)
    (hk : ∀ p ∈ ks, IsT P w s.heap p.2 p.1) (few : ks.length ≤ 300) (nd : (hz P w ks).Nodup) (hu : A.units + 3 < cLine)
    (h : ∀ (h' : Heap) (tk : Nat) L es ep t, BigR P w h' s.heap.objs.size L es ep t → L.Perm ks → (∀ b o, s.heap.get? b = some o → h'.get? b = some o) → Q (.ref s.heap.objs.size) { s with heap := h', toks := tk }) :
    wpAny (model P w) A (call (.type "set") [.ref l]) Q E s := by
  have isz : items.size = ks.length := by
    have q := congrArg List.length hit
    rw [List.length_map] at q
    exact q
  have hlS : l < s.heap.objs.size := by
    obtain ⟨o, ho, _⟩ := hl
    exact Heap.lt_size ho
  refine set_frame (fun h' => ∃ L es ep t, BigR P w h' s.heap.objs.size L es ep t ∧ L.Perm ks) hl (fun R hR => ?_) fun h' tk ⟨L, es, ep, t, b, pm⟩ q => h h' tk L es ep t b pm q
  refine filling ((Walks.list (by simp [hh]) _ l (by rw [Heap.size_push]; exact Nat.ne_of_lt (Nat.lt_succ_of_lt hlS)) items).toS) s.heap.objs.size ?_ ks isz few nd (fun i v hv => ?_) s.heap hk (gone_of (Nat.le_refl _)) (fun b hb => gone_of (by
      rw [List.mem_singleton.mp hb, Heap.size_push]
      exact Nat.le_succ _)) hu (items.size - 0) 0 _ (by omega) (Nat.zero_le _)
    ⟨⟨_, Heap.get?_push_size _ rfl, rfl, rfl⟩, ((hl.push _).push _)⟩ (fun b o e => Heap.get?_push_of_some _ (Heap.get?_push_of_some _ e)) ⟨[], #[], 0, _, bigR_fresh (Heap.get?_push_of_some _ (Heap.get?_push_size _ rfl)), List.Perm.refl _⟩ ?_
  · rw [Heap.size_push]
    simp only [List.mem_cons, List.not_mem_nil, or_false, not_or]
    exact ⟨Nat.ne_of_lt (Nat.lt_succ_self _), Nat.ne_of_gt hlS⟩
  · have q : items.toList[i]? = some v := by rw [Array.getElem?_toList]; exact hv
    rw [hit, List.getElem?_map] at q
    obtain ⟨p, hp, e⟩ := Option.map_eq_some_iff.mp q
    exact ⟨p, hp, e.symm⟩
  · intro s' L es ep t hm hS' pm hkp
    rw [isz, List.take_length] at pm
    exact hR s' hm.gens hm.drawn hm.os ⟨L, es, ep, t, hS', pm⟩ hkp
/-- set(xs), xs a list of ints -/
theorem call_setN {l : Addr} {items : Array Value} (ns : List Int) {Q : Value → Shared → Prop} (hh : A.handled = none) (hl : s.heap.IsList l items) (hit : IntsAre items.toList ns) (hb : ns.length + 1 < scanBound)
    (h : ∀ (h' : Heap) (tk c : Nat), SetR w h' s.heap.objs.size (fun j => decide (j ∈ ns)) c → c ≤ ns.length → (∀ b o, s.heap.get? b = some o → h'.get? b = some o) → Q (.ref s.heap.objs.size) { s with heap := h', toks := tk }) :
    wpAny (model P w) A (call (.type "set") [.ref l]) Q E s := by
  have isz : items.size = ns.length := IntsAre.length hit
  have hlS : l < s.heap.objs.size := by
    obtain ⟨o, ho, _⟩ := hl
    exact Heap.lt_size ho
  refine set_frame (fun h' => ∃ c, c ≤ ns.length ∧ SetR w h' s.heap.objs.size (fun j => decide (j ∈ ns)) c) hl (fun R hR => ?_) fun h' tk ⟨c, b, r⟩ q => h h' tk c r b q
  refine set_update_ints ((Walks.list (by simp [hh]) _ l (by rw [Heap.size_push]; exact Nat.ne_of_lt (Nat.lt_succ_of_lt hlS)) items).toS) s.heap.objs.size ?_ ns isz hb (fun i v hv => ?_) (items.size - 0) 0 _ (by omega) (Nat.zero_le _)
    ⟨⟨_, Heap.get?_push_size _ rfl, rfl, rfl⟩, ((hl.push _).push _)⟩ ⟨0, Nat.le_refl 0, setR_new_at (Heap.get?_push_of_some _ (Heap.get?_push_size _ rfl))⟩ fun s' c hm hc hS' => ?_
  · rw [Heap.size_push]
    simp only [List.mem_cons, List.not_mem_nil, or_false, not_or]
    exact ⟨Nat.ne_of_lt (Nat.lt_succ_self _), Nat.ne_of_gt hlS⟩
  · have hi : i < ns.length := by rw [← isz]; exact (Array.getElem?_eq_some_iff.mp hv).1
    obtain ⟨t, e⟩ := PyProof.Rows.IntsAre.int_at hit i v (by rw [Array.getElem?_toList]; exact hv)
    refine ⟨ns[i], t, List.getElem?_eq_getElem hi, ?_⟩
    rw [e, List.getD_eq_getElem?_getD, List.getElem?_eq_getElem hi]
    rfl
  · refine hR s' hm.gens hm.drawn hm.os ⟨c, by omega, hS'⟩ fun b o e => hm.heap b o ?_ (Heap.get?_push_of_some _ (Heap.get?_push_of_some _ e))
    have b0 : b < s.heap.objs.size := Heap.lt_size e
    rw [Heap.size_push]
    simp only [List.mem_cons, List.not_mem_nil, or_false, not_or]
    exact ⟨Nat.ne_of_lt b0, Nat.ne_of_lt (Nat.lt_succ_of_lt b0)⟩
/-- k not in the set, where it is in -/
theorem notIn_big {a : Addr} {L : List (Addr × List Int)} {es : Array (Int × Value)} {ep : Nat} {t : SetTable} (R : BigR P w s.heap a L es ep t) {x : Addr} {k : List Int} (hx : IsT P w s.heap k x) (ht : ∀ p ∈ L, IsT P w s.heap p.2 p.1) (hm : k ∈ L.map (·.2)) (hu : A.units + 8 < cLine) {Q : Value → Shared → Prop}
    (h : Q (.bool false) { s with toks := s.toks + (k.length + 1) }) : wpAny (model P w) A (compareOp .NotIn (.ref x) (.ref a)) Q E s := by
  obtain ⟨o, ho, hex, hd⟩ := R.ob
  have hT : s.TypeIs (.ref a) "set" := ⟨o, ho, hex.1⟩
  show wpAny _ _ (do return .bool (!(← contains (.ref a) (.ref x)))) Q E s
  refine wpAny_bind ?_
  unfold contains
  try with_reducible refine wpAny_holding ?_
  refine wpAny_bind (wpAny_specialOf hT F.slot_set_contains.lookup ?_)
  show wpAny _ _ (if (some (Value.builtin "set.__contains__") == some Value.none) = true then _ else _) _ E s
  rw [if_neg (by rw [beq_builtin_none]; exact Bool.false_ne_true)]
  refine wpAny_bind (wpAny_callSpecialUnlessNone?_slot (name := Str.ofString "__contains__") hT F.slot_set_contains
    (wpAny_call_entry F.slot_set_contains hT entry_set_contains ?_ (F.args_set_contains_2 _ _)))
  unfold Builtin.«frozenset.__contains__» Builtin.Frozenset.oneOther
  simp only [List.isEmpty_nil, bind_assoc]
  unfold Builtin.Frozenset.addrOf Builtin.Frozenset.withSetAsKey setContains
  refine wpAny_bind (wpAny_pure ?_)
  try dsimp only
  refine wpAny_bind (wpAny_pure ?_)
  try dsimp only
  refine wpAny_bind (wpAny_tryCatch ?_)
  refine wpAny_holding ?_
  refine wpAny_bind (wpAny_pyHash_tuple ?_ hx ?_)
  · show A.units + 1 < cLine
    omega
  · unfold setFind
    rw [show (100000 : Nat) = 99999 + 1 from rfl]
    unfold setFindIn
    refine wpAny_bind ?_
    refine wpAny_bind (wpAny_setState_of (s := { s with toks := s.toks + (k.length + 1) }) ho hd R.fits ?_)
    dsimp only
    refine wp_if_neg (by simp [byScan, Value.scannable]) ?_
    try refine wpAny_bind (wpAny_pure ?_)
    refine wpAny_bind (hit (s := { s with toks := s.toks + (k.length + 1) }) R hx ht hm ?_ fun i => ?_)
    · show A.units + 1 < cLine
      omega
    · dsimp only
      refine wpAny_pure ?_
      refine wpAny_pure ?_
      show wpAny _ _ (ret (Value.bool (some i).isSome)) _ _ _
      exact wpAny_pure ⟨_, rfl, wpAny_truthy_bool (wpAny_pure h)⟩
end
end KB
end
section
set_option linter.all false
set_option maxRecDepth 100000
set_option maxHeartbeats 4000000
namespace KB
open PySem PySem.Spec PyProof.Rows L2
/-- the set at a as an object of the heap's picture -/
def BigT (P : Program) (w : World) (h : Heap) (a : Addr) (L : List (Addr × List Int)) : Prop := ∃ (es : Array (Int × Value)) (ep : Nat) (t : SetTable), BigR P w h a L es ep t
def BigO (P : Program) (w : World) (a : Addr) (L : List (Addr × List Int)) : HO := .ext fun h => BigT P w h a L
theorem bigO_new {P : Program} {w : World} {H : Hp} {h : Heap} {a : Addr} {L : List (Addr × List Int)} (R : BigT P w h a L) : ObjOk P w H h a (BigO P w a L) := by
  have ⟨es, ep, t, r⟩ := R
  obtain ⟨o, ho, _⟩ := r.ob
  refine ⟨R, ⟨o, ho⟩, fun h1 h2 p k => ?_⟩
  have ⟨es', ep', t', r'⟩ : BigT P w h1 a L := p
  exact ⟨es', ep', t', r'.keep k⟩
section
variable {X : Cx}
/-- set(xs), xs a list of tuples of ints, hashes apart -/
def rSetB (K : PySem.W.Frag) (P : Program) (w : World) : List V → Hp → VK → Prop := fun xs H Q => ∃ (l : Addr) (ks : List (Addr × List Int)), xs = [V.ref l] ∧ SqL K H l (ks.map fun p => V.ref p.1) ∧ (∀ p ∈ ks, SqT K H p.1 (p.2.map V.int)) ∧ ks.length ≤ 300 ∧ (hz P w ks).Nodup ∧
  ∀ a L, H a = none → L.Perm ks → Q (.ref a) (upd H a (BigO P w a L))
theorem cr_setB (hc : X.calm = true) (hu : X.A.units + 64 < cLine) : CallR X (.type "set") (rSetB X.K X.prog X.w) := by
  intro pins s σ H xs us Q I r h
  obtain ⟨l, ks, rfl, hl, hk, hf, nd, q⟩ := h
  rw [Vals.ref1 r]
  obtain ⟨its, rv, pl, hz⟩ := I.list hl
  have hn : H s.heap.objs.size = none := I.hok.fresh (Nat.le_refl _)
  refine call_setB (P := X.prog) (w := X.w) ks (I.ok.hd hc) pl.isList (by simpa using refs_of_vals rv) (fun p hp => I.isT (hk p hp)) hf nd (by omega) fun h' tk L es ep t R pm k => ?_
  exact ⟨.ref s.heap.objs.size, upd H s.heap.objs.size (BigO X.prog X.w s.heap.objs.size L), I.laid (t' := tk) k (Nat.le_refl _) (bigO_new ⟨es, ep, t, R⟩), rfl, q _ L hn pm⟩
/-- set(xs), xs a list of ints -/
def rSetI (K : PySem.W.Frag) (w : World) : List V → Hp → VK → Prop := fun xs H Q => ∃ (l : Addr) (ns : List Int), xs = [V.ref l] ∧ SqL K H l (ns.map V.int) ∧ ns.length ≤ 4000 ∧
  ∀ a c, H a = none → c ≤ ns.length → Q (.ref a) (upd H a (SetO w a (fun j => decide (j ∈ ns)) c))
theorem call_setI (hc : X.calm = true) : CallR X (.type "set") (rSetI X.K X.w) := by
  intro pins s σ H xs us Q I r h
  obtain ⟨l, ns, rfl, hl, hf, q⟩ := h
  rw [Vals.ref1 r]
  obtain ⟨its, rv, pl, hz⟩ := I.list hl
  have hn : H s.heap.objs.size = none := I.hok.fresh (Nat.le_refl _)
  refine call_setN ns (I.ok.hd hc) pl.isList (by simpa using rv.ints) (by unfold scanBound; omega) fun h' tk c R hcn k => ?_
  exact ⟨.ref s.heap.objs.size, upd H s.heap.objs.size (SetO X.w s.heap.objs.size (fun j => decide (j ∈ ns)) c), I.laid (t' := tk) k (Nat.le_refl _) (setO_new R), rfl, q _ c hn hcn⟩
/-- key not in the set, where it is in -/
def rNotInB (K : PySem.W.Frag) (P : Program) (w : World) : V → V → Hp → VK → Prop := fun x y H Q => ∃ (a b : Addr) (L : List (Addr × List Int)) (k : List Int), x = .ref b ∧ y = .ref a ∧ H a = some (BigO P w a L) ∧ SqT K H b (k.map V.int) ∧ (∀ p ∈ L, SqT K H p.1 (p.2.map V.int)) ∧ k ∈ L.map (·.2) ∧ Q (.bl false) H
theorem op_notInB (hu : X.A.units + 64 < cLine) : OpR X (compareOp .NotIn) (rNotInB X.K X.prog X.w) := by
  intro pins s σ H x y v u Q I rx ry h
  obtain ⟨a, b, L, k, rfl, rfl, ha, hb, hL, hm, q⟩ := h
  cases rx
  cases ry
  have ⟨es, ep, t, R⟩ : BigT X.prog X.w s.heap a L := (I.hok a _ ha).1
  exact notIn_big R (I.isT hb) (fun p hp => I.isT (hL p hp)) hm (by omega) ⟨.bl false, H, I.tok _, rfl, q⟩
end
end KB
end
section
set_option linter.all false
set_option maxRecDepth 100000
set_option maxHeartbeats 4000000
namespace K49
open PySem PySem.Spec PyProof.Rows L2 KR KD
variable {md : Md} {S : Hp} {σ : L2.St} {te : TE} {g g1 : TG}
/-- [e for x in xs for y in ys] -/
theorem ev_lc2 {α β : Type} {ti ti1 : TI} {T : α → Hp → V → Prop} {vs vs1 : List Nat} {xs : List α} (ys : α → List β) (U : α → β → Hp → V → Prop) (F : α → β → PyData) (h : EvX md S ti σ xs T) (hn : (xs.flatMap fun a => (ys a).map (F a)).length ≤ 100000)
    (hb : ∀ a S1 x, Same S S1 → a ∈ xs → T a S1 x → ∃ σ2, EvG S1 g x (wipe σ vs) σ2 ∧ wipe σ2 vs = wipe σ vs ∧ EvX md S1 ti1 σ2 (ys a) (U a) ∧
      ∀ b S2 y, Same S1 S2 → b ∈ ys a → U a b S2 y → ∃ σ3, EvG S2 g1 y (wipe σ2 vs1) σ3 ∧ wipe σ3 vs1 = wipe σ2 vs1 ∧ Ev md S2 te σ3 (D (F a b))) :
    Ev md S (tLc2 ti g tYes ti1 g1 tYes te vs vs1) σ (D (.list (xs.flatMap fun a => (ys a).map (F a)))) := fun S1 H1 R e1 o1 k =>
  h S1 H1 _ e1 o1 fun J S2 H2 g2 w => fun Dl hD => by
    have n0 := g2.k.newL (o := .lst []) hD
    refine ⟨fun i m H => m = xs.length - i ∧ i ≤ xs.length ∧ ∃ S3 acc, Gr md S2 H2 S3 H ∧ S3 Dl = none ∧ H Dl = some (.lst acc) ∧ DdAll S3 acc ((xs.take i).flatMap fun a => (ys a).map (F a)), ⟨xs.length, by omega, Nat.zero_le _, S2, [], n0, g2.k.le.free hD, upd_same, .nil⟩, ?_⟩
    rintro i m H ⟨rfl, hi, S3, acc, g3, s3, h3, a3⟩
    have nm : ¬ md.M Dl := g3.nm hD
    by_cases hlt : i < xs.length
    · refine .inr ⟨w.go i S3 H g3.st g3.k hlt, fun H => ∃ S3 acc, Gr md S2 H2 S3 H ∧ S3 Dl = none ∧ H Dl = some (.lst acc) ∧ DdAll S3 acc ((xs.take (i + 1)).flatMap fun a => (ys a).map (F a)), fun H' q => ⟨xs.length - (i + 1), by omega, rfl, hlt, q⟩, fun x H4 y => ?_⟩
      obtain ⟨S4, g4, a, ha, ht⟩ := w.yld i S3 H x H4 g3.st g3.k hlt y
      obtain ⟨h4, s4⟩ := g4.keep s3 h3 nm
      obtain ⟨σ2, eg, wp, ei, eb⟩ := hb a S4 x (((e1.trans g2.st).trans g3.st).trans g4.st) (List.mem_of_getElem? ha) ht
      have step : (xs.take (i + 1)).flatMap (fun a => (ys a).map (F a)) = (xs.take i).flatMap (fun a => (ys a).map (F a)) ++ (ys a).map (F a) := by
        rw [List.take_add_one, ha, List.flatMap_append]
        simp
      have few : ((xs.take i).flatMap (fun a => (ys a).map (F a))).length + (ys a).length ≤ 100000 := by
        have q : xs.flatMap (fun a => (ys a).map (F a)) = (xs.take (i + 1)).flatMap (fun a => (ys a).map (F a)) ++ (xs.drop (i + 1)).flatMap (fun a => (ys a).map (F a)) := by
          rw [← List.flatMap_append, List.take_append_drop]
        rw [q, step, List.length_append, List.length_append, List.length_map] at hn
        omega
      refine eg H4 _ g4.k.le ⟨wp, ?_⟩
      unfold tYes
      show if true = true then _ else _
      rw [if_pos rfl]
      refine ei S4 H4 _ (Same.refl _) g4.k fun J1 S6 H6 g6 w1 => ?_
      obtain ⟨h6, s6⟩ := g6.keep s4 h4 nm
      have a6 := DdAll.up (g4.st.trans g6.st) _ a3
      refine ⟨fun j k H => k = (ys a).length - j ∧ j ≤ (ys a).length ∧ ∃ S7 acc, Gr md S2 H2 S7 H ∧ Same S6 S7 ∧ S7 Dl = none ∧ H Dl = some (.lst acc) ∧ DdAll S7 acc ((xs.take i).flatMap (fun a => (ys a).map (F a)) ++ ((ys a).take j).map (F a)), ⟨_, rfl, Nat.zero_le _, S6, acc, (g3.trans g4).trans g6, Same.refl _, s6, h6, by rw [List.take_zero, List.map_nil, List.append_nil]; exact a6⟩, ?_⟩
      rintro j k' H7 ⟨rfl, hj, S7, acc7, g7, e7, s7, h7, a7⟩
      by_cases hjl : j < (ys a).length
      · refine .inr ⟨w1.go j S7 H7 e7 g7.k hjl, fun H => ∃ S7 acc, Gr md S2 H2 S7 H ∧ Same S6 S7 ∧ S7 Dl = none ∧ H Dl = some (.lst acc) ∧ DdAll S7 acc ((xs.take i).flatMap (fun a => (ys a).map (F a)) ++ ((ys a).take (j + 1)).map (F a)), fun H' q => ⟨(ys a).length - (j + 1), by omega, rfl, hjl, q⟩, fun y8 H8 yy => ?_⟩
        obtain ⟨S8, g8, b, hbm, hu⟩ := w1.yld j S7 H7 y8 H8 e7 g7.k hjl yy
        obtain ⟨h8, s8⟩ := g8.keep s7 h7 nm
        obtain ⟨σ3, eg1, wp1, ev⟩ := eb b S8 y8 ((g6.st.trans e7).trans g8.st) (List.mem_of_getElem? hbm) hu
        refine eg1 H8 _ g8.k.le ⟨wp1, ?_⟩
        show if true = true then _ else _
        rw [if_pos rfl]
        refine ev S8 H8 _ (Same.refl _) g8.k fun v S9 H9 g9 hv => ?_
        obtain ⟨h9, s9⟩ := g9.keep s8 h8 nm
        refine ⟨acc7, h9, Nat.lt_of_lt_of_le (m := 100001) ?_ (by decide), S9, acc7 ++ [v], ((g7.trans g8).trans g9).mut hD s9, (e7.trans g8.st).trans g9.st, s9, upd_same, ?_⟩
        · rw [a7.len, List.length_append, List.length_map, List.length_take]
          omega
        · rw [List.take_add_one, hbm, List.map_append, ← List.append_assoc]
          exact (DdAll.up (g8.st.trans g9.st) _ a7).app (.cons hv .nil)
      · have ej : j = (ys a).length := by omega
        subst ej
        refine .inl ⟨w1.stop S7 H7 e7 g7.k, S7, acc7, g7, s7, h7, ?_⟩
        rw [step]
        rw [List.take_length] at a7
        exact a7
    · have ei : i = xs.length := by omega
      subst ei
      refine .inl ⟨w.stop S3 H g3.st g3.k, ?_⟩
      rw [List.take_length] at a3
      have gf := (g2.trans g3).frz (nf_back g2 hD) s3 h3
      exact k (.ref Dl) _ H gf (Dd.lst upd_same (DdAll.up (same_new s3) _ a3))
end K49
end
section
set_option linter.all false
set_option maxRecDepth 100000
set_option maxHeartbeats 4000000
namespace K49
open PySem PySem.Spec PyProof.Rows L2 KR KD
section
variable {P : Program} {w : World} {K : PySem.W.Frag} {mg : Str → Option Value} {base : Heap}
def sp_z_outs : Sp := spP (α := W × Nat) (fun a => a.1.2.length ≤ 1000) (fun a => [D (wD a.1), D (nI a.2)]) (fun a => D (lI (outs a.1 a.2)))
def sp_z_ins : Sp := spP (α := W × Nat) (fun a => a.1.2.length ≤ 1000) (fun a => [D (wD a.1), D (nI a.2)]) (fun a => D (lI (ins a.1 a.2)))
def sp_z_on : Sp := spP (α := W × Nat) (fun a => a.1.2.length ≤ 1000 ∧ a.2 < a.1.2.length) (fun a => [D (wD a.1), D (nI a.2)]) (fun a => D (lI (onn a.1 a.2)))
def sp_z_many : Sp := spP (α := W × Nat) (fun a => Wb a.1 ∧ a.2 ≤ 100) (fun a => [D (wD a.1), D (nI a.2)]) (fun a => D (nI (many a.1 a.2)))
def sp_z_rows : Sp := spP (α := W × Nat) (fun a => Wb a.1 ∧ a.2 ≤ 100 ∧ many a.1 (a.2 + 1) ≤ 1000) (fun a => [D (wD a.1), D (nI (a.2 + 1))]) (fun a => D (rsD (rowsN a.1 a.2)))
abbrev t_z_outs : Stmt := top 42
theorem sc_z_outs : FnScope ["_law_w", "_law_room", "_law_at", "_law_pair"] ["_law_w", "_law_room"] (defScope t_z_outs) := ⟨rfl, rfl, rfl, by decide +kernel, rfl, by decide +kernel, by decide +kernel⟩
theorem ok_z_outs {f : Addr} {fd : FuncData} (F : Fun K "_law_outs" "_law_outs" t_z_outs f fd) (T : Txt mg)
    : FnOk P w K mg base CX0 1 f fd ["_law_w", "_law_room"] sp_z_outs := by
  refine F.ok sc_z_outs (fun vs H Q E h => by obtain ⟨_, _, _, _, hv, _⟩ := h; exact hv.len) (fun cdv A outer s H vs Q E hr h => ?_)
  obtain ⟨S, ⟨w, r⟩, hd, hS, hv, k⟩ := h
  dsimp only at hd hv k
  have g0 : Gr md0 S H S H := Gr.refl (ok0 hS)
  obtain ⟨v1, v2, rfl, h1, h2⟩ := hv.two
  refine ⟨_, (pss_one (ps_ret (pe_lc (own := [("_law_at", 2), ("_law_pair", 3)]) (by rfl) sc_z_outs.nd (pi_enumTK K (by rfl) T.enumerate (pa_cons (pe_ix (ix_tupK K) (pv 0) pe_int (fun _ _ => rfl)) pa_nil)) (blkOk_by (own := [("_law_at", 2), ("_law_pair", 3)]) (N := ["_law_w", "_law_room", "_law_at", "_law_pair"]) (sc := defScope t_z_outs) (by decide +kernel)) (fun _ _ _ _ _ => (pg_tupK K (n := 2) rfl (pgs_cons (pg_name (i := 2) sc_z_outs.nd rfl (.inl rfl)) (pgs_cons (pg_name (i := 3) sc_z_outs.nd rfl (.inl rfl)) pgs_nil)))) (fun _ _ _ _ _ => (pts_one (pt_cmpR op_eq (pe_ix (ix_tupK K) (pv 3) pe_int (fun _ _ => rfl)) (pv 1) (nomark _)))) (fun _ _ _ _ _ => (pv 2))))), ?_⟩
  refine s_ret (Ev.eq (xl_D (fun a => decide (be w a = r)) nI (ex_enumTD (ev_w1 (ev_var h1))) (by simpa using Nat.le_trans hd (by decide)) ?_) rfl) g0 k
  rintro i S1 x e ha ⟨p, v, b, rfl, hp, hb, hv⟩
  have hlt : i < w.2.length := by simpa using ha
  rw [pr_at hlt] at hb
  cases hb
  exact ⟨_, eg_pair hp, rfl, et_val (ev_eqN (ev_p0 (ev_var hv)) (ev_var ((D _).up e h2))), fun _ => ev_var (Dd.int _)⟩
abbrev t_z_ins : Stmt := top 43
theorem sc_z_ins : FnScope ["_law_w", "_law_room", "_law_at", "_law_pair"] ["_law_w", "_law_room"] (defScope t_z_ins) := ⟨rfl, rfl, rfl, by decide +kernel, rfl, by decide +kernel, by decide +kernel⟩
theorem ok_z_ins {f : Addr} {fd : FuncData} (F : Fun K "_law_ins" "_law_ins" t_z_ins f fd) (T : Txt mg)
    : FnOk P w K mg base CX0 1 f fd ["_law_w", "_law_room"] sp_z_ins := by
  refine F.ok sc_z_ins (fun vs H Q E h => by obtain ⟨_, _, _, _, hv, _⟩ := h; exact hv.len) (fun cdv A outer s H vs Q E hr h => ?_)
  obtain ⟨S, ⟨w, r⟩, hd, hS, hv, k⟩ := h
  dsimp only at hd hv k
  have g0 : Gr md0 S H S H := Gr.refl (ok0 hS)
  obtain ⟨v1, v2, rfl, h1, h2⟩ := hv.two
  refine ⟨_, (pss_one (ps_ret (pe_lc (own := [("_law_at", 2), ("_law_pair", 3)]) (by rfl) sc_z_ins.nd (pi_enumTK K (by rfl) T.enumerate (pa_cons (pe_ix (ix_tupK K) (pv 0) pe_int (fun _ _ => rfl)) pa_nil)) (blkOk_by (own := [("_law_at", 2), ("_law_pair", 3)]) (N := ["_law_w", "_law_room", "_law_at", "_law_pair"]) (sc := defScope t_z_ins) (by decide +kernel)) (fun _ _ _ _ _ => (pg_tupK K (n := 2) rfl (pgs_cons (pg_name (i := 2) sc_z_ins.nd rfl (.inl rfl)) (pgs_cons (pg_name (i := 3) sc_z_ins.nd rfl (.inl rfl)) pgs_nil)))) (fun _ _ _ _ _ => (pts_one (pt_cmpR op_eq (pe_ix (ix_tupK K) (pv 3) pe_int (fun _ _ => rfl)) (pv 1) (nomark _)))) (fun _ _ _ _ _ => (pv 2))))), ?_⟩
  refine s_ret (Ev.eq (xl_D (fun a => decide (en w a = r)) nI (ex_enumTD (ev_w1 (ev_var h1))) (by simpa using Nat.le_trans hd (by decide)) ?_) rfl) g0 k
  rintro i S1 x e ha ⟨p, v, b, rfl, hp, hb, hv⟩
  have hlt : i < w.2.length := by simpa using ha
  rw [pr_at hlt] at hb
  cases hb
  exact ⟨_, eg_pair hp, rfl, et_val (ev_eqN (ev_p1 (ev_var hv)) (ev_var ((D _).up e h2))), fun _ => ev_var (Dd.int _)⟩
abbrev t_z_on : Stmt := top 44
theorem sc_z_on : FnScope ["_law_w", "_law_arrow"] ["_law_w", "_law_arrow"] (defScope t_z_on) := ⟨rfl, rfl, rfl, by decide +kernel, rfl, by decide +kernel, by decide +kernel⟩
theorem ok_z_on {f : Addr} {fd : FuncData} (F : Fun K "_law_on" "_law_on" t_z_on f fd) (T : Txt mg)
    (C_z_outs : Df P w K mg base "_law_outs" 1 ["_law_w", "_law_room"] sp_z_outs)
    : FnOk P w K mg base CX0 2 f fd ["_law_w", "_law_arrow"] sp_z_on := by
  obtain ⟨f_z_outs, fd_z_outs, G_z_outs, m_z_outs, k_z_outs, b_z_outs⟩ := C_z_outs.ex
  refine F.ok sc_z_on (fun vs H Q E h => by obtain ⟨_, _, _, _, hv, _⟩ := h; exact hv.len) (fun cdv A outer s H vs Q E hr h => ?_)
  obtain ⟨S, ⟨w, r⟩, hd, hS, hv, k⟩ := h
  dsimp only at hd hv k
  have g0 : Gr md0 S H S H := Gr.refl (ok0 hS)
  obtain ⟨v1, v2, rfl, h1, h2⟩ := hv.two
  refine ⟨_, (pss_one (ps_ret (pe_call G_z_outs (hr.mono (by decide)) (by rfl) m_z_outs k_z_outs b_z_outs .nil pass0 (pa_cons (pv 0) (pa_cons (pe_ix (ix_tupK K) (pe_ix (ix_tupK K) (pe_ix (ix_tupK K) (pv 0) pe_int (fun _ _ => rfl)) (pv 1) (fun _ _ => rfl)) pe_int (fun _ _ => rfl)) pa_nil))))), ?_⟩
  exact s_ret (ev_call (w, en w r) hd.1 (ea2 (ev_var h1) (ev_en (ev_var h1) (ev_var h2) hd.2))) g0 k
abbrev t_z_many : Stmt := top 45
theorem sc_z_many : FnScope ["_law_w", "_law_length", "_law_found", "_law_step", "_law_room", "_law_arrow"] ["_law_w", "_law_length"] (defScope t_z_many) := ⟨rfl, rfl, rfl, by decide +kernel, rfl, by decide +kernel, by decide +kernel⟩
theorem ok_z_many {f : Addr} {fd : FuncData} (F : Fun K "_law_many" "_law_many" t_z_many f fd) (T : Txt mg)
    (C_z_outs : Df P w K mg base "_law_outs" 1 ["_law_w", "_law_room"] sp_z_outs)
    : FnOk P w K mg base CX0 2 f fd ["_law_w", "_law_length"] sp_z_many := by
  obtain ⟨f_z_outs, fd_z_outs, G_z_outs, m_z_outs, k_z_outs, b_z_outs⟩ := C_z_outs.ex
  refine F.ok sc_z_many (fun vs H Q E h => by obtain ⟨_, _, _, _, hv, _⟩ := h; exact hv.len) (fun cdv A outer s H vs Q E hr h => ?_)
  obtain ⟨S, ⟨w, n⟩, hd, hS, hv, k⟩ := h
  dsimp only at hd hv k
  have g0 : Gr md0 S H S H := Gr.refl (ok0 hS)
  obtain ⟨ok, hn⟩ := hd
  obtain ⟨v1, v2, rfl, h1, h2⟩ := hv.two
  refine ⟨_, (pss_cons (ps_set (i := 2) sc_z_many.nd rfl (.inr rfl) (pe_op op_rep (pe_lst (pa_cons pe_int pa_nil)) (pe_ix (ix_tupK K) (pv 0) pe_int (fun _ _ => rfl))))
    (pss_cons (ps_for PassesOwn.never rfl (pi_range1 (by rfl) T.range (pa_cons (pv 1) pa_nil)) (pg_name (i := 3) sc_z_many.nd rfl (.inl rfl))
      (pss_one (ps_set (i := 2) sc_z_many.nd rfl (.inr rfl) (pe_lc (own := [("_law_room", 4)]) (by rfl) sc_z_many.nd (pi_range1 (by rfl) T.range (pa_cons (pe_ix (ix_tupK K) (pv 0) pe_int (fun _ _ => rfl)) pa_nil)) (blkOk_by (own := [("_law_room", 4)]) (N := ["_law_w", "_law_length", "_law_found", "_law_step", "_law_room", "_law_arrow"]) (sc := defScope t_z_many) (by decide +kernel)) (fun _ _ _ _ _ => (pg_name (i := 4) sc_z_many.nd rfl (.inl rfl))) (fun _ _ _ _ _ => pts_nil) (fun _ _ _ _ _ => (pe_callB (cr_sumK K rfl) (by rfl) T.sum (by decide +kernel) (pa_cons (pe_lc (own := [("_law_arrow", 5)]) (by rfl) sc_z_many.nd (pi_listK K (pe_call G_z_outs (hr.mono (by decide)) (by rfl) m_z_outs k_z_outs b_z_outs .nil pass0 (pa_cons (pv 0) (pa_cons (pv 4) pa_nil)))) (blkOk_by (own := [("_law_arrow", 5)]) (N := ["_law_w", "_law_length", "_law_found", "_law_step", "_law_room", "_law_arrow"]) (sc := { kind := .function, names := [(".0", .local), ("_law_room", .local), ("sum", .globalImplicit), ("_law_outs", .globalImplicit), ("_law_found", .cell), ("_law_w", .cell)], isGenerator := false, isCoroutine := false }) (by decide +kernel)) (fun _ _ _ _ _ => (pg_name (i := 5) sc_z_many.nd rfl (.inl rfl))) (fun _ _ _ _ _ => pts_nil) (fun _ _ _ _ _ => (pe_ix (ix_listK K) (pv 2) (pe_ix (ix_tupK K) (pe_ix (ix_tupK K) (pe_ix (ix_tupK K) (pv 0) pe_int (fun _ _ => rfl)) (pv 5) (fun _ _ => rfl)) pe_int (fun _ _ => rfl)) (fun _ _ => rfl)))) pa_nil)))))))
    (pss_one (ps_ret (pe_callB (cr_sumK K rfl) (by rfl) T.sum (by decide +kernel) (pa_cons (pv 2) pa_nil)))))), ?_⟩
  refine q_asg (P := D (lI (cnt w 0))) (Ev.lstD ?_) g0 fun v3 S1 H1 g1 e1 h3 => ?_
  · have q := ev_rep (md := md0) (S := S) (ta := tLst (tCons (tC (.int 1)) tNil)) (tb := tOp (rIxT K) (tVar 0) (tC (.int 0))) (σ := start ["_law_w", "_law_length", "_law_found", "_law_step", "_law_room", "_law_arrow"] [v1, v2]) (n := w.1) (ev_lst (ea1 (ev_int (i := 1)))) (ev_w0 (ev_var h1)) (by have := ok.few; omega)
    show Ev _ _ _ _ (LstT (List.map D (List.map nI (List.replicate w.1 1))))
    rw [List.map_replicate, List.map_replicate]
    exact q
  have h1 := (D _).up e1.st h1
  have h2 := (D _).up e1.st h2
  refine q_for (ex_rng1 (ev_var h2) (by omega)) g1 (fun i σ S' _ => ∃ v x, σ = [some v1, some v2, some v, x, none, none] ∧ (D (lI (cnt w i))).ok S' v) (fun S2 H2 e2 => ⟨v3, none, rfl, (D _).up e2.st h3⟩) ?_ ?_
  · rintro Sb i a σ1 S2 H2 x S3 H3 hi eb g3 e3 ⟨v, x0, rfl, hf⟩ e4 rfl
    have h1 := (D _).up (eb.trans e3) h1
    have hf := (D _).up e4.st hf
    show tAsg _ (gName 2) _ [some v1, some v2, some v, some (.int (a : Nat)), none, none] _
    refine s_asg (P := D (lI (cnt w (i + 1)))) (Ev.eq (xl_YD (xs := List.range w.1) (fun r => nI ((outs w r).map fun a => (cnt w i).getD (en w a) 0).sum) (ex_rng1 (ev_w0 (ev_var h1)) (by have := ok.few; omega)) (by have := ok.few; simp; omega) ?_) (lI_map _ _).symm) g3 fun v4 S4 H4 g4 e5 h4 => ⟨S4, g4, e3.trans e5.st, v4, _, rfl, ?_⟩
    · rintro r S5 x e5 hr rfl
      have h1 := (D _).up e5 h1
      have hf := (D _).up e5 hf
      refine ⟨_, eg_name, rfl, ev_sumN (Ev.eq (xl_YD (xs := outs w r) (fun a => nI ((cnt w i).getD (en w a) 0)) (ex_listD (ev_call (w, r) (Nat.le_trans ok.le (by decide)) (ea2 (ev_var h1) (ev_var (Dd.int _))))) ?_ ?_) (lI_map _ _).symm)⟩
      · have := List.length_filter_le (fun a => decide (be w a = r)) (List.range w.2.length)
        have q := ok.le
        rw [List.length_range] at this
        show (List.filter _ _).length ≤ _
        omega
      · rintro a S6 x e6 ha hx
        have hlt := (mem_outs.mp ha).1
        have hen : en w a < (cnt w i).length := by rw [cnt_len]; exact (ok.rng a hlt).2
        refine ⟨_, eg_name, rfl, ?_⟩
        refine Ev.eq (ev_ixLN (x := (cnt w i)[en w a]) (ev_var ((D _).up e6 hf)) (ev_en (ev_var ((D _).up e6 h1)) (ev_var hx) hlt) (List.getElem?_eq_getElem hen)) ?_
        rw [List.getD_eq_getElem?_getD, List.getElem?_eq_getElem hen]
        rfl
    · exact h4
  · rintro σ1 S2 H2 g2 e2 ⟨v, x, rfl, hf⟩
    rw [List.length_range] at hf
    exact s_ret (ev_sumN (ev_var hf)) g2 k
theorem tI_snoc (r : List Nat) (a : Nat) : tI (r ++ [a]) = .tuple (r.map nI ++ [nI a]) := by
  unfold tI
  rw [List.map_append]
  rfl
abbrev t_z_rows : Stmt := top 46
theorem sc_z_rows : FnScope ["_law_w", "_law_length", "_law_found", "_law_step", "_law_later", "_law_row", "_law_arrow"] ["_law_w", "_law_length"] (defScope t_z_rows) := ⟨rfl, rfl, rfl, by decide +kernel, rfl, by decide +kernel, by decide +kernel⟩
theorem ok_z_rows {f : Addr} {fd : FuncData} (F : Fun K "_law_rows" "_law_rows" t_z_rows f fd) (T : Txt mg)
    (C_z_on : Df P w K mg base "_law_on" 2 ["_law_w", "_law_arrow"] sp_z_on)
    : FnOk P w K mg base CX0 3 f fd ["_law_w", "_law_length"] sp_z_rows := by
  obtain ⟨f_z_on, fd_z_on, G_z_on, m_z_on, k_z_on, b_z_on⟩ := C_z_on.ex
  refine F.ok sc_z_rows (fun vs H Q E h => by obtain ⟨_, _, _, _, hv, _⟩ := h; exact hv.len) (fun cdv A outer s H vs Q E hr h => ?_)
  obtain ⟨S, ⟨w, n⟩, hd, hS, hv, k⟩ := h
  dsimp only at hd hv k
  have g0 : Gr md0 S H S H := Gr.refl (ok0 hS)
  obtain ⟨ok, hn, hm⟩ := hd
  obtain ⟨v1, v2, rfl, h1, h2⟩ := hv.two
  have hmj : ∀ j, j ≤ n → (rowsN w j).length ≤ 1000 := fun j hj => by
    rw [rowsN_len ok.toWOk]
    exact Nat.le_trans (many_mono ok.toWOk (by omega)) hm
  refine ⟨_, (pss_cons (ps_setLc (i := 2) (own := [("_law_arrow", 6)]) (by rfl) sc_z_rows.nd rfl rfl (sw_true rfl rfl rfl (by decide +kernel)) (pi_range1 (by rfl) T.range (pa_cons (pe_callB (call_lenK K) (by rfl) T.len PySem.boot_len (pa_cons (pe_ix (ix_tupK K) (pv 0) pe_int (fun _ _ => rfl)) pa_nil)) pa_nil)) (blkOk_by (own := [("_law_arrow", 6)]) (N := ["_law_w", "_law_length", "_law_found", "_law_step", "_law_later", "_law_row", "_law_arrow"]) (sc := defScope t_z_rows) (by decide +kernel)) (fun _ _ _ _ _ => (pg_name (i := 6) sc_z_rows.nd rfl (.inl rfl))) (fun _ _ _ _ _ => pts_nil) (fun _ _ _ _ _ => (pe_tup (pa_cons (pv 6) pa_nil))))
    (pss_cons (ps_for PassesOwn.never rfl (pi_range1 (by rfl) T.range (pa_cons (pe_op op_sub (pv 1) pe_int) pa_nil)) (pg_name (i := 3) sc_z_rows.nd rfl (.inl rfl))
      (pss_cons (ps_set (i := 4) sc_z_rows.nd rfl (.inl rfl) (pe_lst pa_nil))
      (pss_cons (ps_for PassesOwn.never rfl (pi_listK K (pv 2)) (pg_name (i := 5) sc_z_rows.nd rfl (.inr rfl))
        (pss_one (ps_set (i := 4) sc_z_rows.nd rfl (.inl rfl) (pe_op op_cat (pv 4) (pe_lc (own := [("_law_arrow", 6)]) (by rfl) sc_z_rows.nd (pi_listK K (pe_call G_z_on (hr.mono (by decide)) (by rfl) m_z_on k_z_on b_z_on .nil pass0 (pa_cons (pv 0) (pa_cons (pe_ix (ix_tupK K) (pv 5) (pe_un un_neg pe_int) (fun _ _ => rfl)) pa_nil)))) (blkOk_by (own := [("_law_arrow", 6)]) (N := ["_law_w", "_law_length", "_law_found", "_law_step", "_law_later", "_law_row", "_law_arrow"]) (sc := defScope t_z_rows) (by decide +kernel)) (fun _ _ _ _ _ => (pg_name (i := 6) sc_z_rows.nd rfl (.inl rfl))) (fun _ _ _ _ _ => pts_nil) (fun _ _ _ _ _ => (pe_op (op_catAK K) (pv 5) (pe_tup (pa_cons (pv 6) pa_nil)))))))))
      (pss_one (ps_set (i := 2) sc_z_rows.nd rfl (.inl rfl) (pv 4))))))
    (pss_one (ps_ret (pv 2))))), ?_⟩
  refine q_asg (P := D (rsD (rowsN w 0))) (Ev.eq (xl_YD (xs := List.range w.2.length) (fun a => tI [a]) (ex_rng1 (Ev.eq (ev_lenDT (ev_w1 (ev_var h1))) (by rw [List.length_map])) (Nat.le_trans ok.le (by decide))) (by have := ok.le; simp; omega) ?_) ?_) g0 fun v3 S1 H1 g1 e1 h3 => ?_
  · rintro a S1 x e ha rfl
    exact ⟨_, eg_name, rfl, ev_tupD (ds := [nI a]) (ea1 (ev_var (Dd.int _)))⟩
  · unfold rsD rowsN
    rw [List.map_map]
    rfl
  have h1 := (D _).up e1.st h1
  have h2 := (D _).up e1.st h2
  refine q_for (xs := List.range n) (ex_rng1 (Ev.eq (ev_opI (g := fun i j => i - j) (ev_var h2) ev_int) (by show PyData.int _ = PyData.int _; congr 1; omega)) (by omega)) g1 (fun i σ S' _ => ∃ v x y z, σ = [some v1, some v2, some v, x, y, z, none] ∧ (D (rsD (rowsN w i))).ok S' v) (fun S2 H2 e2 => ⟨v3, none, none, none, rfl, (D _).up e2.st h3⟩) ?_ ?_
  · rintro Sb i a σ1 S2 H2 x S3 H3 hi eb g3 e3 ⟨v, x0, y0, z0, rfl, hf⟩ e4 rfl
    have hin : i < n := by
      have := (List.getElem?_eq_some_iff.mp hi).1
      simpa using this
    have h1 := (D _).up (eb.trans e3) h1
    have hf := (D _).up e4.st hf
    show tSeq (tAsg (tLst tNil) (gName 4)) _ _ [some v1, some v2, some v, some (.int (a : Nat)), y0, z0, none] _
    refine q_asg (P := D (rsD [])) (ev_lstD (ds := []) ea_nil) g3 fun v4 S4 H4 g4 e5 h4 => ?_
    have h1 := (D _).up e5.st h1
    have hf := (D _).up e5.st hf
    refine q_for (ex_listD (xs := rowsN w i) (enc := tI) (ev_var hf)) g4 (fun l σ S' _ => ∃ u z, σ = [some v1, some v2, some v, some (.int (a : Nat)), some u, z, none] ∧ (D (rsD (pre w i l))).ok S' u) (fun S2 H2 e2 => ⟨v4, z0, rfl, (D _).up e2.st h4⟩) ?_ ?_
    · rintro Sc l r σ2 S5 H5 y S6 H6 hl ec g6 e6 ⟨u, z, rfl, hu⟩ e7 hr0
      have hr : r ∈ rowsN w i := List.mem_of_getElem? hl
      have h1 := (D _).up (ec.trans e6) h1
      have hu := (D _).up e7.st hu
      have hll := rowsN_last hr
      show tAsg _ (gName 4) _ [some v1, some v2, some v, some (.int (a : Nat)), some u, some y, none] _
      refine s_asg (P := D (rsD (pre w i (l + 1)))) (Ev.conv (ev_cat (ts := (pre w i l).map fun r => D (tI r)) (us := ((onn w (lst0 r)).map fun a => r ++ [a]).map fun r => D (tI r)) (Ev.conv (ev_var hu) ?_) (Ev.conv (Ev.Dlst (xl_YD (xs := onn w (lst0 r)) (fun a => tI (r ++ [a])) (ex_listD (ev_call (w, lst0 r) ⟨Nat.le_trans ok.le (by decide), hll⟩ (ea2 (ev_var h1) (ev_lastT (ev_var hr0) (rowsN_ne hr) ev_neg1)))) ?_ ?_)) ?_) ?_) ?_) g6 fun v7 S7 H7 g7 e8 h7 => ⟨S7, g7, e6.trans e8.st, v7, _, rfl, h7⟩
      · intro S v hv
        have q := D_lst.1 hv
        rw [List.map_map] at q
        exact q
      · have := List.length_filter_le (fun a => decide (be w a = en w (lst0 r))) (List.range w.2.length)
        have q := ok.le
        rw [List.length_range] at this
        show (List.filter _ _).length ≤ _
        omega
      · rintro b S8 x e9 hb hx
        refine ⟨_, eg_name, rfl, ?_⟩
        rw [tI_snoc]
        refine Ev.tupD ?_
        rw [List.map_append]
        refine ev_catA (Ev.Dtup (ev_var ((D _).up e9 hr0))) (ev_tup (ts := [D (nI b)]) (ea1 (ev_var hx))) ?_
        have := (mem_rowsN.mp hr).1
        simp
        omega
      · intro S v hv
        rw [List.map_map] at hv ⊢
        exact hv
      · have q1 := pre_le w i (l + 1)
        have q2 := hmj (i + 1) (by omega)
        rw [pre_succ hl, List.length_append] at q1
        rw [List.length_map, List.length_map]
        omega
      · intro S v hv
        rw [← List.map_append, ← pre_succ hl] at hv
        refine D_lst.2 ?_
        rw [List.map_map]
        exact hv
    · rintro σ2 S5 H5 g5 e6 ⟨u, z, rfl, hu⟩
      refine s_asg (P := D (rsD (rowsN w (i + 1)))) (ev_var (by rw [pre_full] at hu; exact hu)) g5 fun v7 S7 H7 g7 e8 h7 => ⟨S7, g7, (e3.trans e5.st).trans (e6.trans e8.st), v7, _, _, _, rfl, h7⟩
  · rintro σ1 S2 H2 g2 e2 ⟨v, x, y, z, rfl, hf⟩
    rw [List.length_range] at hf
    exact s_ret (ev_var hf) g2 k
end
end K49
end
section
set_option linter.all false
set_option maxRecDepth 100000
set_option maxHeartbeats 4000000
namespace K49
open PySem PySem.Spec PyProof.Rows L2 KR KD
def OneOf (ps : List (Nat × Nat)) : KD.Ty := ⟨fun S v => ∃ p ∈ ps, (D (pD p)).ok S v, fun e ⟨p, h, q⟩ => ⟨p, h, (D _).up e q⟩⟩
def PermT (ds : List PyData) : KD.Ty := ⟨fun S v => ∃ es, es.Perm ds ∧ (D (.list es)).ok S v, fun e ⟨p, h, q⟩ => ⟨p, h, (D _).up e q⟩⟩
def sp_z_of : Sp := spB (α := List (Nat × Nat)) (fun ps => 0 < ps.length ∧ ps.length < 1000000) (fun ps => [D (psD ps)]) (fun ps => OneOf ps)
def sp_z_mixed : Sp := spB (α := List PyData) (fun ds => ds.length < 100000) (fun ds => [D (.list ds)]) (fun ds => PermT ds)
/-- the script's bag -/
def sp_z_bag (K : PySem.W.Frag) : Sp := fun vs H Q _ => ∃ (a : Addr) (ns : List Int), vs = [.ref a] ∧ SqL K H a (ns.map V.int) ∧ ns.length ≤ 63 ∧ ∀ b l H', Same H H' → H b = none → BagB b l ns H' → Q (.ref b) H'
theorem perm_of_map {α β : Type} (f : α → β) : ∀ (xs : List α) (es : List β), es.Perm (xs.map f) → ∃ ys : List α, ys.Perm xs ∧ es = ys.map f := by
  intro xs es h
  generalize hm : xs.map f = zs at h
  induction h generalizing xs with
  | nil =>
    cases xs with
    | nil => exact ⟨[], .nil, rfl⟩
    | cons x xs => cases hm
  | cons y h ih =>
    cases xs with
    | nil => cases hm
    | cons x xs =>
      cases hm
      obtain ⟨ys, h1, h2⟩ := ih xs rfl
      exact ⟨x :: ys, .cons x h1, by rw [h2]; rfl⟩
  | swap a b l =>
    cases xs with
    | nil => cases hm
    | cons x xs =>
      cases xs with
      | nil => cases hm
      | cons x' xs =>
        cases hm
        exact ⟨x' :: x :: xs, .swap _ _ _, rfl⟩
  | trans h1 h2 ih1 ih2 =>
    obtain ⟨ys, a1, a2⟩ := ih2 xs hm
    obtain ⟨zs, b1, b2⟩ := ih1 ys a2.symm
    exact ⟨zs, b1.trans a1, b2⟩
theorem erase_perm {α : Type} {xs : List α} {i : Nat} {x : α} (h : xs[i]? = some x) : (x :: xs.eraseIdx i).Perm xs := by
  induction xs generalizing i with
  | nil => cases h
  | cons y xs ih =>
    cases i with
    | zero => cases h; exact .refl _
    | succ i => exact (List.Perm.swap y x _).trans (.cons y (ih h))
section
variable {P : Program} {w : World} {K : PySem.W.Frag} {mg : Str → Option Value} {base : Heap}
theorem All.eraseIdx {S : Hp} : ∀ {vs : List V} {ts : List KD.Ty} (i : Nat), All S vs ts → All S (vs.eraseIdx i) (ts.eraseIdx i)
  | _, _, _, .nil => .nil
  | _, _, 0, .cons _ h => h
  | _, _, i + 1, .cons a h => .cons a (All.eraseIdx i h)
theorem DdAll.eraseIdx {S : Hp} {vs : List V} {ds : List PyData} (i : Nat) (h : DdAll S vs ds) : DdAll S (vs.eraseIdx i) (ds.eraseIdx i) := KD.All.toD (by
  have e : (ds.eraseIdx i).map D = (ds.map D).eraseIdx i := by
    clear h
    induction ds generalizing i with
    | nil => rfl
    | cons d ds ih =>
      cases i with
      | zero => rfl
      | succ i => exact congrArg (_ :: ·) (ih i)
  rw [e]
  exact All.eraseIdx i (KD.All.ofD h))
abbrev t_z_of : Stmt := top 36
theorem sc_z_of : FnScope ["_law_bag_here", "_law_some"] ["_law_bag_here", "_law_some"] (defScope t_z_of) := ⟨rfl, rfl, rfl, by decide +kernel, rfl, by decide +kernel, by decide +kernel⟩
theorem ok_z_of {f : Addr} {fd : FuncData} (F : Fun K "_law_of" "_law_of" t_z_of f fd) (T : Txt mg)
    (C_z_pull : Df P w K mg base "_law_pull" 1 ["_law_bag_here", "_law_many_here"] sp_z_pull)
    : FnOk P w K mg base CX0 2 f fd ["_law_bag_here", "_law_some"] sp_z_of := by
  obtain ⟨f_z_pull, fd_z_pull, G_z_pull, m_z_pull, k_z_pull, b_z_pull⟩ := C_z_pull.ex
  refine F.ok sc_z_of (fun vs H Q E h => by obtain ⟨_, _, _, _, _, _, _, hv, _⟩ := h; exact hv.len) (fun cdv A outer s H vs Q E hr h => ?_)
  obtain ⟨b, l, ns, S, ps, ⟨d1, d2⟩, o, hv, k⟩ := h
  obtain ⟨v1, v2, rfl, h1, h2⟩ := hv.two
  refine ⟨_, (pss_one (ps_ret (pe_ix (ix_listK K) (pv 1) (pe_call G_z_pull (hr.mono (by decide)) (by rfl) m_z_pull k_z_pull b_z_pull .nil pass0 (pa_cons (pv 0) (pa_cons (pe_callB (call_lenK K) (by rfl) T.len PySem.boot_len (pa_cons (pv 1) pa_nil)) pa_nil))) (fun _ _ => rfl)))), ?_⟩
  refine s_ret (P := OneOf ps) (ev_op (P1 := D (psD ps)) (P2 := Lt ps.length) (ev_var h2) (ev_callB ps.length ⟨d1, d2⟩ (ea2 (ev_var h1) (Ev.eq (ev_lenDL (ev_var h2)) (by rw [List.length_map])))) ?_) (Gr.refl o) k
  rintro S1 x y e hx ⟨r, hr, rfl⟩
  obtain ⟨a, vs, rfl, e1, e2⟩ := D_lst.1 hx
  have hg : ps[r]? = some ps[r] := List.getElem?_eq_getElem hr
  obtain ⟨v, q1, q2⟩ := e2.at (i := r) (t := D (pD ps[r])) (by simp [hg])
  exact fun S2 H R c o2 k => ⟨a, vs, r, v, rfl, rfl, SqL.of (o2.le _ _ (c _ _ e1)), by
    unfold atI
    rw [e2.len, List.length_map, List.length_map, ixN_nat hr]
    exact q1, k v S2 H (Gr.refl o2) ⟨_, List.getElem_mem hr, (D _).up c q2⟩⟩
abbrev t_z_mixed : Stmt := top 38
theorem sc_z_mixed : FnScope ["_law_bag_here", "_law_some", "_law_left", "_law_found", "_law_k"] ["_law_bag_here", "_law_some"] (defScope t_z_mixed) := ⟨rfl, rfl, rfl, by decide +kernel, rfl, by decide +kernel, by decide +kernel⟩
theorem ok_z_mixed {f : Addr} {fd : FuncData} (F : Fun K "_law_mixed" "_law_mixed" t_z_mixed f fd) (T : Txt mg)
    (C_z_pull : Df P w K mg base "_law_pull" 1 ["_law_bag_here", "_law_many_here"] sp_z_pull)
    : FnOk P w K mg base CX0 2 f fd ["_law_bag_here", "_law_some"] sp_z_mixed := by
  obtain ⟨f_z_pull, fd_z_pull, G_z_pull, m_z_pull, k_z_pull, b_z_pull⟩ := C_z_pull.ex
  refine F.ok sc_z_mixed (fun vs H Q E h => by obtain ⟨_, _, _, _, _, _, _, hv, _⟩ := h; exact hv.len) (fun cdv A outer s H vs Q E hr h => ?_)
  obtain ⟨b, l, ns, S, ds, hd, o, hv, k⟩ := h
  obtain ⟨v1, v2, rfl, h1, h2⟩ := hv.two
  obtain rfl : v1 = .ref b := h1
  refine ⟨_, (pss_cons (ps_par (i := 2) (j := 3) (by rfl) sc_z_mixed.nd rfl rfl (by decide) rfl rfl (pa_cons (pe_callTy (call_listK K) (by rfl) T.list (by decide +kernel) (pa_cons (pv 1) pa_nil)) (pa_cons (pe_lst pa_nil) pa_nil)) (by rfl))
    (pss_cons (ps_for PassesOwn.never rfl (pi_range1 (by rfl) T.range (pa_cons (pe_callB (call_lenK K) (by rfl) T.len PySem.boot_len (pa_cons (pv 1) pa_nil)) pa_nil)) (pg_name (i := 4) sc_z_mixed.nd rfl (.inl rfl))
      (pss_one (ps_expr (pe_bmK K PySem.F.plainAttrs_list PySem.F.slot_list_append PySem.F.type_list_append mt_append (pv 3) (pa_cons (pe_bmK K PySem.F.plainAttrs_list PySem.F.slot_list_pop PySem.F.type_list_pop mt_popAt (pv 2) (pa_cons (pe_call G_z_pull (hr.mono (by decide)) (by rfl) m_z_pull k_z_pull b_z_pull .nil pass0 (pa_cons (pv 0) (pa_cons (pe_callB (call_lenK K) (by rfl) T.len PySem.boot_len (pa_cons (pv 2) pa_nil)) pa_nil))) pa_nil)) pa_nil)))))
    (pss_one (ps_ret (pv 3))))), ?_⟩
  obtain ⟨a0, ws, rfl, w1, w2⟩ := D_lst.1 h2
  have w2 := KD.All.toD w2
  have g0 : Gr (bagMd b l ns) S H S H := Gr.refl o
  -- left = list(some), found = []
  refine ⟨_, rfl, a0, ws, rfl, .inl (SqL.of (o.le _ _ w1)), fun la hla => ?_⟩
  have g1 := o.newL (o := .lst ws) hla
  refine ⟨Nat.zero_le _, fun fa hfa => ?_⟩
  have g2 := g1.trans (g1.k.newL (o := .lst []) hfa)
  have nlf : la ≠ fa := fun z => by
    rw [← z, upd_same] at hfa
    cases hfa
  have hfa0 : H fa = none := by
    rw [upd_ne nlf.symm] at hfa
    exact hfa
  have sl0 : S la = none := o.le.free hla
  have sf0 : S fa = none := o.le.free hfa0
  refine ⟨_, _, rfl, ?_⟩
  refine q_for (xs := List.range ds.length) (ex_rng1 (Ev.eq (ev_lenDL (ev_var h2)) rfl) (by omega)) g2 (fun i σ S' H' => ∃ (z : Option V) (xs ys : List V) (ds1 ds2 : List PyData), σ = [some (.ref b), some (.ref a0), some (.ref la), some (.ref fa), z] ∧ H' la = some (.lst xs) ∧ H' fa = some (.lst ys) ∧ S' la = none ∧ S' fa = none ∧
    DdAll S' xs ds1 ∧ DdAll S' ys ds2 ∧ (ds2 ++ ds1).Perm ds ∧ ds2.length = i) (fun S2 H2 e2 => ?_) ?_ ?_
  · obtain ⟨q1, s1⟩ := e2.keep (p := la) (o := .lst ws) sl0 (by rw [upd_ne nlf, upd_same]) (g1.nm hla)
    obtain ⟨q2, s2⟩ := e2.keep (p := fa) (o := .lst []) sf0 upd_same (g1.nm hfa0)
    exact ⟨none, ws, [], ds, [], rfl, q1, q2, s1, s2, DdAll.up e2.st _ w2, .nil, .refl _, rfl⟩
  · rintro Sb i a σ1 S1 H1 x S2 H2 hi eb g3 e3 ⟨z, xs, ys, ds1, ds2, rfl, q1, q2, s1, s2, d1, d2, hp, hl⟩ e4 rfl
    have hin : i < ds.length := by
      have := (List.getElem?_eq_some_iff.mp hi).1
      simpa using this
    have hl1 : 0 < ds1.length := by
      have := hp.length_eq
      rw [List.length_append] at this
      omega
    have hl2 : ds1.length ≤ ds.length := by
      have := hp.length_eq
      rw [List.length_append] at this
      omega
    obtain ⟨q1, s1⟩ := e4.keep s1 q1 (g1.nm hla)
    obtain ⟨q2, s2⟩ := e4.keep s2 q2 (g1.nm hfa0)
    have d1 := DdAll.up e4.st _ d1
    have d2 := DdAll.up e4.st _ d2
    show tDrop _ _ [some (.ref b), some (.ref a0), some (.ref la), some (.ref fa), some (.int (a : Nat))] _
    refine ⟨_, rfl, .inl ⟨rfl, _, SqL.of q2⟩, _, rfl, .inl ⟨rfl, _, SqL.of q1⟩, _, rfl, _, rfl, la, xs, rfl, .inl (SqL.of q1), ?_⟩
    refine ⟨b, l, ns, S2, ds1.length, ⟨hl1, by omega⟩, g3.k, ?_, fun v S3 H3 g4 hv => ?_⟩
    · refine .cons rfl (.cons ?_ .nil)
      rw [d1.len]
      exact Dd.int _
    obtain ⟨r, hr, rfl⟩ := hv
    obtain ⟨q1, s1⟩ := g4.keep s1 q1 (g1.nm hla)
    obtain ⟨q2, s2⟩ := g4.keep s2 q2 (g1.nm hfa0)
    have d1 := DdAll.up g4.st _ d1
    have d2 := DdAll.up g4.st _ d2
    have hg : ds1[r]? = some ds1[r] := List.getElem?_eq_getElem hr
    obtain ⟨y, y1, y2⟩ := d1.at hg
    refine ⟨la, xs, r, r, y, rfl, rfl, q1, by omega, by omega, ?_, y1, ?_⟩
    · unfold seqIndex?
      rw [d1.len]
      have e1 : ¬ ((r : Int) < 0) := by omega
      simp only [e1, if_false]
      rw [if_pos (by simp; omega)]
      simp
    have q2' : upd H3 la (.lst (xs.eraseIdx r)) fa = some (.lst ys) := by rw [upd_ne nlf.symm]; exact q2
    refine ⟨fa, ys, y, rfl, rfl, q2', ?_, ?_⟩
    · have := hp.length_eq
      rw [List.length_append] at this
      rw [d2.len]
      exact Nat.lt_of_lt_of_le (m := 100000) (by omega) (by decide)
    · refine ⟨S3, (((g3.trans g4).mut hla s1).mut hfa0 s2), e3.trans g4.st, _, xs.eraseIdx r, ys ++ [y], ds1.eraseIdx r, ds2 ++ [ds1[r]], rfl, by rw [upd_ne nlf, upd_same], upd_same, s1, s2, DdAll.eraseIdx r d1, d2.app (.cons y2 .nil), ?_, by simp [hl]⟩
      rw [List.append_assoc]
      exact (List.Perm.append_left ds2 (erase_perm hg)).trans hp
  · rintro σ1 S1 H1 g3 e3 ⟨z, xs, ys, ds1, ds2, rfl, q1, q2, s1, s2, d1, d2, hp, hl⟩
    have h0 : ds1 = [] := List.eq_nil_of_length_eq_zero (by
      have := hp.length_eq
      rw [List.length_append] at this
      rw [List.length_range] at hl
      omega)
    rw [h0, List.append_nil] at hp
    refine ⟨_, rfl, k _ _ _ (g3.frz hfa0 s2 q2) ⟨ds2, hp, Dd.lst upd_same (DdAll.up (same_new s2) _ d2)⟩⟩
abbrev t_z_bag : Stmt := top 34
theorem sc_z_bag : FnScope ["_law_script", "_law_seed", "_law_cell"] ["_law_script"] (defScope t_z_bag) := ⟨rfl, rfl, rfl, by decide +kernel, rfl, by decide +kernel, by decide +kernel⟩
theorem cut63 {xs : List V} (h : xs.length ≤ 63) : cutV xs none (some 63) = xs := by
  unfold cutV
  have e : HT.sIx xs.length xs.length (some 63) = xs.length := by
    have := HT.sIx_nat xs.length xs.length 63
    rw [show ((63 : Nat) : Int) = 63 from rfl] at this
    rw [this]
    omega
  rw [e]
  show (xs.drop 0).take (xs.length - 0) = xs
  rw [List.drop_zero, Nat.sub_zero, List.take_length]
theorem ev_script {H : Hp} {a : Addr} {ns : List Int} {σ : L2.St} (hs : SqL K H a (ns.map V.int)) (hl : ns.length ≤ 63) (h0 : σ[0]? = some (some (.ref a)) := by rfl) : Ev md0 H (tSl (rSlL K) (tVar 0) tNoPart (tPart (tC (.int 63)))) σ (D (.list (ns.map PyData.int))) := fun S1 H1 R e o k =>
  ⟨_, h0, 63, rfl, a, _, rfl, (e.trans o.le).seq hs, fun p hp => by
    rw [cut63 (by rw [List.length_map]; exact hl)]
    exact k _ _ _ (o.new hp) (Dd.lst upd_same (DdAll.ints ns))⟩
theorem ok_z_bag {f : Addr} {fd : FuncData} (F : Fun K "_law_bag" "_law_bag" t_z_bag f fd) (T : Txt mg)
    : FnOk P w K mg base CX0 1 f fd ["_law_script"] (sp_z_bag K) := by
  refine F.ok sc_z_bag (fun vs H Q E h => by obtain ⟨_, _, rfl, _⟩ := h; rfl) (fun cdv A outer s H vs Q E hr h => ?_)
  obtain ⟨a, ns, rfl, hs, hl, k⟩ := h
  refine ⟨_, (pss_cons (ps_set (i := 1) sc_z_bag.nd rfl (.inl rfl) pe_int)
    (pss_cons (ps_for PassesOwn.never rfl (pi_listK K (pe_slice (sl_listK K) (pv 0) po_none (po_some pe_int))) (pg_name (i := 2) sc_z_bag.nd rfl (.inl rfl))
      (pss_one (ps_set (i := 1) sc_z_bag.nd rfl (.inl rfl) (pe_op op_modN (pe_op op_add (pe_op op_add (pe_op op_mul (pv 1) pe_int) (pv 2)) pe_int) pe_int))))
    (pss_one (ps_ret (pe_lst (pa_cons (pe_callTy (call_listK K) (by rfl) T.list (by decide +kernel) (pa_cons (pe_slice (sl_listK K) (pv 0) po_none (po_some pe_int)) pa_nil)) (pa_cons pe_int (pa_cons pe_int (pa_cons (pv 1) (pa_cons pe_int pa_nil)))))))))), ?_⟩
  have g0 : Gr md0 H H H H := Gr.refl Ok.self
  show tSeq (tFor (iList K (tSl (rSlL K) (tVar 0) tNoPart (tPart (tC (.int 63))))) (gName 2) _) _ _ [some (.ref a), some (.int 53), none] H
  refine q_for (ex_listD (ev_script hs hl)) g0 (fun i σ S' _ => ∃ (x : Int) (z : Option V), σ = [some (.ref a), some (.int x), z]) (fun S2 H2 e2 => ⟨53, none, rfl⟩) ?_ ?_
  · rintro Sb i c σ1 S1 H1 y S2 H2 hi eb g3 e3 ⟨x, z, rfl⟩ e4 hy
    obtain rfl := D_int hy
    show tAsg _ (gName 1) _ [some (.ref a), some (.int x), some (.int c)] _
    refine s_asg (ev_opC (ev_opI (ev_opI (ev_mulS (ev_var (Dd.int x)) ev_int ⟨by decide, by decide⟩) (ev_var (Dd.int c))) ev_int) ev_int (by decide)) g3 fun v S3 H3 g4 e5 hv => ?_
    obtain rfl := D_int hv
    exact ⟨S3, g4, e3.trans e5.st, _, _, rfl⟩
  · rintro σ1 S1 H1 g1 e1 ⟨x, z, rfl⟩
    -- [list(script[:63]), 0, 0, seed, 0]
    have hs1 := (g1.st.trans g1.k.le).seq hs
    refine (Ev.conv (ev_listL (K := K) (Ev.Dlst (ev_script (σ := [some (.ref a), some (.int x), z]) hs1 hl))) (P1 := D (.list (ns.map PyData.int))) fun S v hv => D_lst.2 hv) H1 H1 _ (Same.refl _) Ok.self fun v S2 H2 g2 hv => ?_
    obtain ⟨p, vs, rfl, e1', e2⟩ := D_lst.1 hv
    have e3 := ints_of (KD.All.toD e2)
    subst e3
    refine ⟨_, rfl, (by show 5 ≤ sizeLine; decide), fun b hb => ?_⟩
    have hp : H2 p = some (.lst (ns.map V.int)) := g2.k.le _ _ e1'
    have hsame : Same H (upd H2 b (.lst [.ref p, .int 0, .int 0, .int x, .int 0])) := ((g1.st.trans g1.k.le).trans (g2.st.trans g2.k.le)).trans (same_new hb)
    refine k b p _ hsame ?_ ⟨⟨0, 0, x, 0, upd_same, Nat.zero_le _, by decide⟩, by rw [upd_ne (ne_of_none hp hb)]; exact hp⟩
    exact ((g1.st.trans g1.k.le).trans (g2.st.trans g2.k.le)).free hb
end
end K49
end
section
set_option linter.all false
set_option maxRecDepth 100000
set_option maxHeartbeats 4000000
namespace K49
open PySem PySem.Spec PyProof.Rows L2 KR KD
/-- a web of at most r rooms and a arrows -/
def WebT (r a : Nat) : KD.Ty := ⟨fun S v => ∃ w : W, WOk w ∧ w.1 ≤ r ∧ w.2.length ≤ a ∧ (D (wD w)).ok S v, fun e ⟨w, h1, h2, h3, q⟩ => ⟨w, h1, h2, h3, (D _).up e q⟩⟩
/-- a pair of numbers below n, its first one being i -/
def PrB (n i : Nat) : KD.Ty := ⟨fun S v => ∃ r, r < n ∧ (D (pD (i, r))).ok S v, fun e ⟨r, h, q⟩ => ⟨r, h, (D _).up e q⟩⟩
def PrA (n : Nat) : KD.Ty := ⟨fun S v => ∃ i r, i < n ∧ r < n ∧ (D (pD (i, r))).ok S v, fun e ⟨i, r, h1, h, q⟩ => ⟨i, r, h1, h, (D _).up e q⟩⟩
def sp_z_web : Sp := spB (α := Nat × Nat) (fun a => 0 < a.1 ∧ a.1 ≤ 50 ∧ a.2 ≤ 50) (fun a => [D (nI a.1), D (nI a.2)]) (fun a => WebT a.1 (a.1 + a.2))
theorem all_prb {S : Hp} {n : Nat} : ∀ {vs : List V} {is : List Nat}, All S vs (is.map fun i => PrB n i) → ∃ ps : List (Nat × Nat), DdAll S vs (ps.map pD) ∧ ps.map (·.1) = is ∧ ∀ p ∈ ps, p.2 < n
  | _, [], h => by
    cases h
    exact ⟨[], .nil, rfl, fun p hp => by cases hp⟩
  | _, i :: is, h => by
    cases h with
    | cons a b =>
      obtain ⟨ps, h1, h2, h3⟩ := all_prb b
      obtain ⟨r, hr, hv⟩ := a
      refine ⟨(i, r) :: ps, .cons hv h1, by rw [List.map_cons, h2], fun p hp => ?_⟩
      rcases List.mem_cons.mp hp with rfl | hp
      · exact hr
      · exact h3 p hp
/-- the drawn pairs make a web -/
theorem web_ok {n : Nat} {ps qs : List (Nat × Nat)} (hn : 0 < n) (h0 : (ps.take n).map (·.1) = List.range n) (hb : ∀ p ∈ ps, p.1 < n ∧ p.2 < n) (hp : qs.Perm ps) : WOk (n, qs) := by
  refine ⟨hn, fun a ha => ?_, fun r hr => ?_⟩
  · have hm : qs[a] ∈ ps := hp.mem_iff.mp (List.getElem_mem ha)
    have e : pr (n, qs) a = qs[a] := by
      unfold pr
      rw [List.getD_eq_getElem?_getD, List.getElem?_eq_getElem ha]
      rfl
    unfold be en
    rw [e]
    exact hb _ hm
  · have : r ∈ (ps.take n).map (·.1) := by
      rw [h0]
      exact List.mem_range.mpr hr
    obtain ⟨p, h1, h2⟩ := List.mem_map.mp this
    have hq : p ∈ qs := hp.mem_iff.mpr (List.mem_of_mem_take h1)
    obtain ⟨a, ha, e⟩ := List.getElem_of_mem hq
    refine ⟨a, ha, ?_⟩
    unfold be pr
    show (qs.getD a (0, 0)).1 = r
    rw [List.getD_eq_getElem?_getD, List.getElem?_eq_getElem ha, e]
    exact h2
theorem rng_pick {md : Md} {S H S0 H0 : Hp} {te : TE} {σ : L2.St} {m : Nat} {g : TG} {tu tz : TS} {D' : Ends} (h : Ev md S te σ (Lt m)) (g0 : Gr md S0 H0 S H) (k : ∀ n S1 H1, n < m → Gr md S0 H0 S1 H1 → Gr md S H S1 H1 → tSeq (tFor (iRng1 (tCons (tC (.int (n : Nat))) tNil)) g tu) tz D' σ H1) :
    tSeq (tFor (iRng1 (tCons te tNil)) g tu) tz D' σ H := h.go g0 fun v S1 H1 g1 e1 hv => by
  obtain ⟨n, hn, rfl⟩ := hv
  exact k n S1 H1 hn g1 e1
section
variable {P : Program} {w : World} {K : PySem.W.Frag} {mg : Str → Option Value} {base : Heap}
abbrev t_z_web : Stmt := top 39
theorem sc_z_web : FnScope ["_law_bag_here", "_law_rooms_most", "_law_more_most", "_law_rooms", "_law_pairs", "_law_k", "_law_room"] ["_law_bag_here", "_law_rooms_most", "_law_more_most"] (defScope t_z_web) := ⟨rfl, rfl, rfl, by decide +kernel, rfl, by decide +kernel, by decide +kernel⟩
theorem ok_z_web {f : Addr} {fd : FuncData} (F : Fun K "_law_web" "_law_web" t_z_web f fd) (T : Txt mg)
    (C_z_mixed : Df P w K mg base "_law_mixed" 2 ["_law_bag_here", "_law_some"] sp_z_mixed)
    (C_z_pull : Df P w K mg base "_law_pull" 1 ["_law_bag_here", "_law_many_here"] sp_z_pull)
    : FnOk P w K mg base CX0 3 f fd ["_law_bag_here", "_law_rooms_most", "_law_more_most"] sp_z_web := by
  obtain ⟨f_z_mixed, fd_z_mixed, G_z_mixed, m_z_mixed, k_z_mixed, b_z_mixed⟩ := C_z_mixed.ex
  obtain ⟨f_z_pull, fd_z_pull, G_z_pull, m_z_pull, k_z_pull, b_z_pull⟩ := C_z_pull.ex
  refine F.ok sc_z_web (fun vs H Q E h => by obtain ⟨_, _, _, _, _, _, _, hv, _⟩ := h; exact hv.len) (fun cdv A outer s H vs Q E hr h => ?_)
  obtain ⟨b, l, ns, S, ⟨rm, mm⟩, ⟨d1, d2, d3⟩, o, hv, k⟩ := h
  dsimp only at d1 d2 d3 hv k
  obtain ⟨v1, v2, v3, rfl, h1, h2, h3⟩ := hv.three
  refine ⟨_, (pss_cons (ps_set (i := 3) sc_z_web.nd rfl (.inr rfl) (pe_op op_add pe_int (pe_call G_z_pull (hr.mono (by decide)) (by rfl) m_z_pull k_z_pull b_z_pull .nil pass0 (pa_cons (pv 0) (pa_cons (pv 1) pa_nil)))))
    (pss_cons (ps_setLc (i := 4) (own := [("_law_room", 6)]) (by rfl) sc_z_web.nd rfl rfl (sw_true rfl rfl rfl (by decide +kernel)) (pi_range1 (by rfl) T.range (pa_cons (pv 3) pa_nil)) (blkOk_by (own := [("_law_room", 6)]) (N := ["_law_bag_here", "_law_rooms_most", "_law_more_most", "_law_rooms", "_law_pairs", "_law_k", "_law_room"]) (sc := defScope t_z_web) (by decide +kernel)) (fun _ _ _ _ _ => (pg_name (i := 6) sc_z_web.nd rfl (.inl rfl))) (fun _ _ _ _ _ => pts_nil) (fun _ _ _ _ _ => (pe_tup (pa_cons (pv 6) (pa_cons (pe_call G_z_pull (hr.mono (by decide)) (by rfl) m_z_pull k_z_pull b_z_pull .nil pass0 (pa_cons (pv 0) (pa_cons (pv 3) pa_nil))) pa_nil)))))
    (pss_cons (ps_for PassesOwn.never rfl (pi_range1 (by rfl) T.range (pa_cons (pe_call G_z_pull (hr.mono (by decide)) (by rfl) m_z_pull k_z_pull b_z_pull .nil pass0 (pa_cons (pv 0) (pa_cons (pe_op op_add (pv 2) pe_int) pa_nil))) pa_nil)) (pg_name (i := 5) sc_z_web.nd rfl (.inl rfl))
      (pss_one (ps_expr (pe_bmK K PySem.F.plainAttrs_list PySem.F.slot_list_append PySem.F.type_list_append mt_append (pv 4) (pa_cons (pe_tup (pa_cons (pe_call G_z_pull (hr.mono (by decide)) (by rfl) m_z_pull k_z_pull b_z_pull .nil pass0 (pa_cons (pv 0) (pa_cons (pv 3) pa_nil))) (pa_cons (pe_call G_z_pull (hr.mono (by decide)) (by rfl) m_z_pull k_z_pull b_z_pull .nil pass0 (pa_cons (pv 0) (pa_cons (pv 3) pa_nil))) pa_nil))) pa_nil)))))
    (pss_one (ps_ret (pe_tup (pa_cons (pv 3) (pa_cons (pe_callTy (call_tupleK K) (by rfl) T.tuple (by decide +kernel) (pa_cons (pe_call G_z_mixed (hr.mono (by decide)) (by rfl) m_z_mixed k_z_mixed b_z_mixed .nil pass0 (pa_cons (pv 0) (pa_cons (pv 4) pa_nil))) pa_nil)) pa_nil)))))))), ?_⟩
  have g0 : Gr (bagMd b l ns) S H S H := Gr.refl o
  have bg : ∀ S', (IsV (.ref b)).ok S' v1 := fun _ => h1
  -- rooms
  refine q_asg (P := ⟨fun _ v => ∃ n, 0 < n ∧ n ≤ rm ∧ v = .int (n : Nat), fun _ h => h⟩) (ev_op (P2 := Lt rm) (ev_int (i := 1)) (ev_callB rm ⟨d1, by omega⟩ (ea2 (ev_var h1) (ev_var h2))) ?_) g0 fun v4 S1 H1 g1 e1 h4 => ?_
  · rintro S1 x y e hx ⟨r, hr, rfl⟩
    rw [D_int hx]
    exact rv_I0 fun _ => ⟨r + 1, by omega, by omega, by
      congr 1
      omega⟩
  obtain ⟨n, n0, n1, rfl⟩ := h4
  have hN : ∀ S', (D (nI n)).ok S' (.int (n : Nat)) := fun _ => Dd.int _
  refine q_asgO (xn_Y (xs := List.range n) (fun i => PrB n i) (ex_rng1 (ev_var (hN _)) (by omega)) (by simp; omega) ?_) g1 fun p vs S2 H2 g2 e2 w2 a2 => ?_
  · rintro i S2 x e hi rfl
    refine ⟨_, eg_name, rfl, Ev.conv (ev_tup (ts := [D (nI i), Lt n]) (ea2 (ev_var (Dd.int _)) (ev_callB n ⟨n0, by omega⟩ (ea2 (ev_var (bg _)) (ev_var (hN _)))))) fun S v hv => ?_⟩
    obtain ⟨a, vs, rfl, h1, h2⟩ := hv
    obtain ⟨x, y, rfl, hx, r, hr, rfl⟩ := h2.two
    exact ⟨r, hr, Dd.tup h1 (.cons hx (.cons (Dd.int _) .nil))⟩
  obtain ⟨ps, p1, p2, p3⟩ := all_prb a2
  have pl : ps.length = n := by
    have := congrArg List.length p2
    simpa using this
  have pb : ∀ q ∈ ps, q.1 < n ∧ q.2 < n := fun q hq => ⟨by
    have : q.1 ∈ ps.map (·.1) := List.mem_map.mpr ⟨q, hq, rfl⟩
    rw [p2] at this
    exact List.mem_range.mp this, p3 q hq⟩
  have h3' := (D _).up (e1.st.trans e2.st) h3
  -- more of them
  refine rng_pick (m := mm + 1) (ev_callB (mm + 1) ⟨by omega, by omega⟩ (ea2 (ev_var (bg _)) (Ev.eq (ev_opI (g := fun i j => i + j) (ev_var h3') ev_int) (by show PyData.int _ = PyData.int _; congr 1)))) g2 fun m S3 H3 hm g3 e3 => ?_
  have w3 := w2.step g2 e3
  refine q_for (xs := List.range m) (ex_rng1 ev_int (by omega)) g3 (fun i σ S' H' => ∃ (z : Option V) (vs : List V) (ps : List (Nat × Nat)), σ = [some v1, some v2, some v3, some (.int (n : Nat)), some (.ref p), z, none] ∧ Own (bagMd b l ns) S H S' H' p (.lst vs) ∧ DdAll S' vs (ps.map pD) ∧ (ps.take n).map (·.1) = List.range n ∧ ps.length = n + i ∧ ∀ q ∈ ps, q.1 < n ∧ q.2 < n) (fun S4 H4 e4 => ?_) ?_ ?_
  · exact ⟨none, vs, ps, rfl, w3.step g3 e4, DdAll.up (e3.st.trans e4.st) _ p1, by rw [← pl, List.take_length, p2, pl], pl, pb⟩
  · rintro Sb i a σ1 S4 H4 x S5 H5 hi eb g5 e5 ⟨z, vs, ps, rfl, w4, d4, t4, l4, b4⟩ e6 rfl
    have w5 := w4.step g5 e6
    have d5 := DdAll.up e6.st _ d4
    show tDrop _ _ [some v1, some v2, some v3, some (.int (n : Nat)), some (.ref p), some (.int (a : Nat)), none] _
    have him : i < m := by
      have := (List.getElem?_eq_some_iff.mp hi).1
      simpa using this
    refine s_appO (P := PrA n) ha_var (Ev.conv (ev_tup (ts := [Lt n, Lt n]) (ea2 (ev_callB n ⟨n0, by omega⟩ (ea2 (ev_var (bg _)) (ev_var (hN _)))) (ev_callB n ⟨n0, by omega⟩ (ea2 (ev_var (bg _)) (ev_var (hN _)))))) fun S v hv => ?_) g5 w5 (by rw [d5.len, List.length_map, l4]; omega) fun v S6 H6 H7 g6 _ g7 e7 w7 hv => ?_
    · obtain ⟨a, vs, rfl, h1, h2⟩ := hv
      obtain ⟨x, y, rfl, ⟨r, hr, rfl⟩, r', hr', rfl⟩ := h2.two
      exact ⟨r, r', hr, hr', Dd.tup h1 (.cons (Dd.int _) (.cons (Dd.int _) .nil))⟩
    · obtain ⟨r, r', hr, hr', hd⟩ := hv
      refine ⟨S6, g7, e5.trans e7, _, vs ++ [v], ps ++ [(r, r')], rfl, w7, ?_, ?_, ?_, ?_⟩
      · rw [List.map_append]
        exact (DdAll.up e7 _ d5).app (.cons hd .nil)
      · rw [List.take_append_of_le_length (by omega)]
        exact t4
      · rw [List.length_append, l4, List.length_singleton]
        omega
      · intro q hq
        rcases List.mem_append.mp hq with hq | hq
        · exact b4 q hq
        · obtain rfl := List.mem_singleton.mp hq
          exact ⟨hr, hr'⟩
  · rintro σ1 S4 H4 g4 e4 ⟨z, vs, ps, rfl, w4, d4, t4, l4, b4⟩
    rw [List.length_range] at l4
    have gp := w4.put g4
    refine s_ret (P := WebT rm (rm + mm)) (Ev.conv (ev_tup (ts := [D (nI n), ⟨fun S v => ∃ qs : List (Nat × Nat), qs.Perm ps ∧ (D (.tuple (qs.map pD))).ok S v, fun e ⟨q, h1, h2⟩ => ⟨q, h1, (D _).up e h2⟩⟩]) (ea2 (ev_var (hN _)) ?_)) fun S v hv => ?_) gp k
    · -- tuple(mixed(bag, pairs))
      have hp : (D (psD ps)).ok (L2.upd S4 p (.lst vs)) (.ref p) := Dd.lst upd_same (DdAll.up (same_new w4.s) _ d4)
      refine ev_cb (ea1 (P := PermT (ps.map pD)) (ev_callB (ps.map pD) (by rw [List.length_map, l4]; omega) (ea2 (ev_var (bg _)) (ev_var hp)))) fun S5 us e5 hv H5 R o5 k5 => ?_
      obtain ⟨v, rfl, es, he, hw⟩ := hv.one
      obtain ⟨qs, q1, rfl⟩ := perm_of_map pD ps es he
      have hd := D_lst.1 hw
      obtain ⟨a, us, rfl, u1, u2⟩ := hd
      refine ⟨a, us, rfl, .inl ⟨SqL.of (o5.le _ _ u1), fun t ht => k5 _ _ _ (o5.new ht) ⟨qs, q1, ?_⟩⟩⟩
      exact Dd.tup upd_same (DdAll.up (o5.new (o := .tup us) ht).st _ (KD.All.toD u2))
    · obtain ⟨a, vs, rfl, a1, a2⟩ := hv
      obtain ⟨x, y, rfl, hx, qs, q1, hy⟩ := a2.two
      refine ⟨(n, qs), web_ok n0 t4 b4 q1, n1, ?_, Dd.tup a1 (.cons hx (.cons hy .nil))⟩
      show qs.length ≤ _
      rw [q1.length_eq, l4]
      omega
end
end K49
end
section
set_option linter.all false
set_option maxRecDepth 100000
set_option maxHeartbeats 4000000
namespace K49
open PySem PySem.Spec PyProof.Rows L2 KR KD
theorem ev_splW {md : Md} {S : Hp} {σ : L2.St} {te : TE} {d : PyData} {S' : Hp} {v : V} (h : (D d).ok S v) (e : Same S S') : (D d).ok S' v := (D d).up e h
def sp_z_split : Sp := spP (α := W × Nat × List Nat) (fun a => Wb a.1) (fun a => [D (wD a.1), D (nI a.2.1), D (lI a.2.2)]) (fun a => TupT [D (wD (splW a.1 a.2.1 a.2.2)), D (lI (splE a.1 a.2.1))])
def NamT (w : W) (rs as : List Nat) : KD.Ty := ⟨fun S v => ∃ u : W, NamOk w u rs as ∧ (D (wD u)).ok S v, fun e ⟨u, h, q⟩ => ⟨u, h, (D _).up e q⟩⟩
def sp_z_named : Sp := spP (α := W × List Nat × List Nat) (fun a => Wb a.1 ∧ a.2.1.Perm (List.range a.1.1) ∧ a.2.2.Perm (List.range a.1.2.length)) (fun a => [D (wD a.1), D (lI a.2.1), D (lI a.2.2)]) (fun a => NamT a.1 a.2.1 a.2.2)
def NmgT (w : W) : KD.Ty := ⟨fun S v => ∃ rs as, rs.Perm (List.range w.1) ∧ as.Perm (List.range w.2.length) ∧ (TupT [D (lI rs), D (lI as)]).ok S v, fun e ⟨a, b, h1, h2, h⟩ => ⟨a, b, h1, h2, (TupT _).up e h⟩⟩
def sp_z_naming : Sp := spB (α := W) (fun w => Wb w) (fun w => [D (wD w)]) (fun w => NmgT w)
/-- some of a room's arrows out, not all of them -/
structure PartOk (w : W) (room : Nat) (part : List Nat) : Prop where
  sub : ∀ a ∈ part, a ∈ outs w room
  few : part ≠ [] → ∃ a ∈ outs w room, a ∉ part
def PartT (w : W) (room : Nat) : KD.Ty := ⟨fun S v => ∃ part, PartOk w room part ∧ (D (lI part)).ok S v, fun e ⟨p, h, q⟩ => ⟨p, h, (D _).up e q⟩⟩
def sp_z_part : Sp := spB (α := W × Nat) (fun a => Wb a.1) (fun a => [D (wD a.1), D (nI a.2)]) (fun a => PartT a.1 a.2)
theorem outs_le (w : W) (r : Nat) : (outs w r).length ≤ w.2.length := by
  have := List.length_filter_le (fun a => decide (be w a = r)) (List.range w.2.length)
  rw [List.length_range] at this
  exact this
theorem ins_le (w : W) (r : Nat) : (ins w r).length ≤ w.2.length := by
  have := List.length_filter_le (fun a => decide (en w a = r)) (List.range w.2.length)
  rw [List.length_range] at this
  exact this
theorem nodup_at {α : Type} {l : List α} (h : l.Nodup) {i j : Nat} {x : α} (a : l[i]? = some x) (b : l[j]? = some x) : i = j := by
  obtain ⟨h1, e1⟩ := List.getElem?_eq_some_iff.mp a
  obtain ⟨h2, e2⟩ := List.getElem?_eq_some_iff.mp b
  exact (List.getElem_inj h).mp (e1.trans e2.symm)
section
variable {P : Program} {w : World} {K : PySem.W.Frag} {mg : Str → Option Value} {base : Heap}
abbrev t_z_split : Stmt := top 50
theorem sc_z_split : FnScope ["_law_w", "_law_room", "_law_part_here", "_law_pairs", "_law_at", "_law_pair", "_law_elders", "_law_arrow"] ["_law_w", "_law_room", "_law_part_here"] (defScope t_z_split) := ⟨rfl, rfl, rfl, by decide +kernel, rfl, by decide +kernel, by decide +kernel⟩
theorem ok_z_split {f : Addr} {fd : FuncData} (F : Fun K "_law_split" "_law_split" t_z_split f fd) (T : Txt mg)
    (C_z_ins : Df P w K mg base "_law_ins" 1 ["_law_w", "_law_room"] sp_z_ins)
    : FnOk P w K mg base CX0 2 f fd ["_law_w", "_law_room", "_law_part_here"] sp_z_split := by
  obtain ⟨f_z_ins, fd_z_ins, G_z_ins, m_z_ins, k_z_ins, b_z_ins⟩ := C_z_ins.ex
  refine F.ok sc_z_split (fun vs H Q E h => by obtain ⟨_, _, _, _, hv, _⟩ := h; exact hv.len) (fun cdv A outer s H vs Q E hr h => ?_)
  obtain ⟨S, ⟨w, room, part⟩, hd, hS, hv, k⟩ := h
  dsimp only at hd hv k
  have g0 : Gr md0 S H S H := Gr.refl (ok0 hS)
  obtain ⟨v1, v2, v3, rfl, h1, h2, h3⟩ := hv.three
  refine ⟨_, (pss_cons (ps_set (i := 3) sc_z_split.nd rfl (.inr rfl) (pe_lst pa_nil))
    (pss_cons (ps_for PassesOwn.never rfl (pi_enumTK K (by rfl) T.enumerate (pa_cons (pe_ix (ix_tupK K) (pv 0) pe_int (fun _ _ => rfl)) pa_nil)) (pg_tupK K (n := 2) rfl (pgs_cons (pg_name (i := 4) sc_z_split.nd rfl (.inl rfl)) (pgs_cons (pg_name (i := 5) sc_z_split.nd rfl (.inl rfl)) pgs_nil)))
      (pss_one (ps_expr (pe_bmK K PySem.F.plainAttrs_list PySem.F.slot_list_append PySem.F.type_list_append mt_append (pv 3) (pa_cons (pe_ifExp (pt_cmpR (op_in_seqK K) (pv 4) (pv 2) (by rfl)) (pe_tup (pa_cons (pe_ix (ix_tupK K) (pv 0) pe_int (fun _ _ => rfl)) (pa_cons (pe_ix (ix_tupK K) (pv 5) pe_int (fun _ _ => rfl)) pa_nil))) (pv 5)) pa_nil)))))
    (pss_cons (ps_set (i := 6) sc_z_split.nd rfl (.inl rfl) (pe_call G_z_ins (hr.mono (by decide)) (by rfl) m_z_ins k_z_ins b_z_ins .nil pass0 (pa_cons (pv 0) (pa_cons (pv 1) pa_nil))))
    (pss_cons (ps_set (i := 3) sc_z_split.nd rfl (.inr rfl) (pe_op op_cat (pv 3) (pe_lc (own := [("_law_arrow", 7)]) (by rfl) sc_z_split.nd (pi_listK K (pv 6)) (blkOk_by (own := [("_law_arrow", 7)]) (N := ["_law_w", "_law_room", "_law_part_here", "_law_pairs", "_law_at", "_law_pair", "_law_elders", "_law_arrow"]) (sc := defScope t_z_split) (by decide +kernel)) (fun _ _ _ _ _ => (pg_name (i := 7) sc_z_split.nd rfl (.inl rfl))) (fun _ _ _ _ _ => pts_nil) (fun _ _ _ _ _ => (pe_tup (pa_cons (pe_ix (ix_tupK K) (pe_ix (ix_listK K) (pv 3) (pv 7) (fun _ _ => rfl)) pe_int (fun _ _ => rfl)) (pa_cons (pe_ix (ix_tupK K) (pv 0) pe_int (fun _ _ => rfl)) pa_nil)))))))
    (pss_one (ps_ret (pe_tup (pa_cons (pe_tup (pa_cons (pe_op op_add (pe_ix (ix_tupK K) (pv 0) pe_int (fun _ _ => rfl)) pe_int) (pa_cons (pe_callTy (call_tupleK K) (by rfl) T.tuple (by decide +kernel) (pa_cons (pv 3) pa_nil)) pa_nil))) (pa_cons (pe_op op_cat (pe_listRg rfl (by rfl) T.list (prg_1 (by rfl) T.range (pe_callB (call_lenK K) (by rfl) T.len PySem.boot_len (pa_cons (pe_ix (ix_tupK K) (pv 0) pe_int (fun _ _ => rfl)) pa_nil)))) (pv 6)) pa_nil))))))))), ?_⟩
  have lw := hd.le
  refine q_asgO (en_lst ea_nil) g0 fun p vs S1 H1 g1 e1 w1 a1 => ?_
  cases a1
  have h1 := (D _).up e1.st h1
  have h2 := (D _).up e1.st h2
  have h3 := (D _).up e1.st h3
  have hBl : (splB w part).length = w.2.length := splB_len
  refine q_for (ex_enumTD (ev_w1 (ev_var h1))) g1 (fun i σ S' H' => ∃ (y z : Option V) (vs : List V), σ = [some v1, some v2, some v3, some (.ref p), y, z, none, none] ∧ Own md0 S H S' H' p (.lst vs) ∧ DdAll S' vs (((splB w part).take i).map pD)) (fun S2 H2 e2 => ⟨none, none, [], rfl, w1.step g1 e2, .nil⟩) ?_ ?_
  · rintro Sb i a σ1 S2 H2 x S3 H3 hi eb g3 e3 ⟨y, z, vs, rfl, w2, d2⟩ e4 ⟨q, v, pp, rfl, hq, hpp, hv⟩
    obtain ⟨rfl, hlt⟩ : a = i ∧ i < w.2.length := by
      have := List.getElem?_eq_some_iff.mp hi
      exact ⟨by simpa using this.2.symm, by simpa using this.1⟩
    have w3 := w2.step g3 e4
    have d3 := DdAll.up e4.st _ d2
    have h1 := (D _).up (eb.trans e3) h1
    have h3 := (D _).up (eb.trans e3) h3
    rw [pr_at hlt] at hpp
    cases hpp
    refine eg_pair hq H3 _ g3.k.le ?_
    show tDrop _ _ [some v1, some v2, some v3, some (.ref p), some (.int (a : Nat)), some v, none, none] _
    have hat : (splB w part)[a]? = some (if a ∈ part then (w.1, en w a) else pr w a) := by
      have := splB_at (part := part) hlt
      rw [List.getD_eq_getElem?_getD, List.getElem?_eq_getElem (by rw [hBl]; exact hlt)] at this
      rw [List.getElem?_eq_getElem (by rw [hBl]; exact hlt)]
      exact congrArg some this
    refine s_appO (P := D (pD (if a ∈ part then (w.1, en w a) else pr w a))) ha_var (ev_if (et_val (ev_inN (ev_var (Dd.int _)) (ev_var h3))) (fun hin => ?_) (fun hin => ?_)) g3 w3 (by rw [d3.len, List.length_map, List.length_take]; omega) fun v' S4 H4 H5 g4 _ g5 e5 w5 hv' => ⟨S4, g5, e3.trans e5, _, _, vs ++ [v'], rfl, w5, ?_⟩
    · rw [if_pos (by simpa using hin)]
      exact ev_tupD (ds := [nI w.1, nI (en w a)]) (ea2 (ev_w0 (ev_var h1)) (ev_p1 (ev_var hv)))
    · rw [if_neg (by simpa using hin)]
      exact ev_var hv
    · rw [List.take_add_one, hat, List.map_append]
      exact (DdAll.up e5 _ d3).app (.cons hv' .nil)
  · rintro σ1 S2 H2 g2 e2 ⟨y, z, vs, rfl, w2, d2⟩
    rw [List.length_range, ← hBl, List.take_length] at d2
    have gp := w2.put g2
    have h1 := (D _).up (e2.trans w2.puts) h1
    have h2 := (D _).up (e2.trans w2.puts) h2
    have hb : (D (psD (splB w part))).ok (L2.upd S2 p (.lst vs)) (.ref p) := Dd.lst upd_same (DdAll.up (same_new w2.s) _ d2)
    refine q_asg (ev_call (w, room) (Nat.le_trans lw (by decide)) (ea2 (ev_var h1) (ev_var h2))) gp fun v6 S3 H3 g3 e3 h6 => ?_
    have h1 := (D _).up e3.st h1
    have hb := (D _).up e3.st hb
    have il := ins_le w room
    refine q_asg (P := D (psD (splW w room part).2)) (Ev.conv (ev_cat (ts := (splB w part).map fun q => D (pD q)) (us := ((ins w room).map fun a => (((splB w part).getD a (0, 0)).1, w.1)).map fun q => D (pD q)) (Ev.conv (ev_var hb) fun S v hv => ?_) (Ev.conv (Ev.Dlst (xl_YD (xs := ins w room) (fun a => pD (((splB w part).getD a (0, 0)).1, w.1)) (ex_listD (ev_var h6)) (by omega) ?_)) fun S v hv => ?_) ?_) fun S v hv => ?_) g3 fun v7 S4 H4 g4 e4 h7 => ?_
    · have q := D_lst.1 hv
      rw [List.map_map] at q
      exact q
    · rintro a S5 x e5 ha hx
      have hlt := (mem_ins.mp ha).1
      refine ⟨_, eg_name, rfl, ev_tupD (ds := [nI ((splB w part).getD a (0, 0)).1, nI w.1]) (ea2 (ev_p0 (p := (splB w part).getD a (0, 0)) (ev_ixLN (ev_var ((D _).up e5 hb)) (ev_var hx) ?_)) (ev_w0 (ev_var ((D _).up e5 h1))))⟩
      rw [List.getD_eq_getElem?_getD, List.getElem?_eq_getElem (by rw [hBl]; exact hlt)]
      rfl
    · rw [List.map_map] at hv ⊢
      exact hv
    · rw [List.length_map, List.length_map, List.length_map, hBl]
      omega
    · rw [← List.map_append] at hv
      refine D_lst.2 ?_
      rw [List.map_map]
      exact hv
    have h1 := (D _).up e4.st h1
    have h6 := (D _).up e4.st h6
    refine s_ret (ev_tup (ts := [D (wD (splW w room part)), D (lI (splE w room))]) (ea2 (ev_tupD (ds := [nI (w.1 + 1), .tuple ((splW w room part).2.map pD)]) (ea2 (Ev.eq (ev_opI (g := fun i j => i + j) (ev_w0 (ev_var h1)) ev_int) (by show PyData.int _ = PyData.int _; congr 1)) (Ev.tupD (ev_tupleL (Ev.Dlst (ev_var h7)))))) ?_)) g4 k
    refine Ev.conv (ev_cat (ts := (List.range w.2.length).map fun a => D (nI a)) (us := (ins w room).map fun a => D (nI a)) (Ev.conv (ev_listRg1 (Ev.eq (ev_lenDT (ev_w1 (ev_var h1))) (by rw [List.length_map])) (by omega)) fun S v hv => ?_) (Ev.conv (ev_var h6) fun S v hv => ?_) (by rw [List.length_map, List.length_map, List.length_range]; omega)) fun S v hv => ?_
    · have q := D_lst.1 hv
      rw [List.map_map] at q
      exact q
    · have q := D_lst.1 hv
      rw [List.map_map] at q
      exact q
    · rw [← List.map_append] at hv
      refine D_lst.2 ?_
      rw [List.map_map]
      exact hv
abbrev t_z_named : Stmt := top 51
theorem sc_z_named : FnScope ["_law_w", "_law_rooms", "_law_arrows", "_law_pairs", "_law_at", "_law_pair"] ["_law_w", "_law_rooms", "_law_arrows"] (defScope t_z_named) := ⟨rfl, rfl, rfl, by decide +kernel, rfl, by decide +kernel, by decide +kernel⟩
theorem ok_z_named {f : Addr} {fd : FuncData} (F : Fun K "_law_named" "_law_named" t_z_named f fd) (T : Txt mg)
    : FnOk P w K mg base CX0 1 f fd ["_law_w", "_law_rooms", "_law_arrows"] sp_z_named := by
  refine F.ok sc_z_named (fun vs H Q E h => by obtain ⟨_, _, _, _, hv, _⟩ := h; exact hv.len) (fun cdv A outer s H vs Q E hr h => ?_)
  obtain ⟨S, ⟨w, rs, as⟩, hd, hS, hv, k⟩ := h
  dsimp only at hd hv k
  have g0 : Gr md0 S H S H := Gr.refl (ok0 hS)
  obtain ⟨ok, pr_, pa_⟩ := hd
  obtain ⟨v1, v2, v3, rfl, h1, h2, h3⟩ := hv.three
  refine ⟨_, (pss_cons (ps_set (i := 3) sc_z_named.nd rfl (.inl rfl) (pe_op op_rep (pe_lst (pa_cons (pe_tup (pa_cons pe_int (pa_cons pe_int pa_nil))) pa_nil)) (pe_callB (call_lenK K) (by rfl) T.len PySem.boot_len (pa_cons (pe_ix (ix_tupK K) (pv 0) pe_int (fun _ _ => rfl)) pa_nil))))
    (pss_cons (ps_for PassesOwn.never rfl (pi_enumTK K (by rfl) T.enumerate (pa_cons (pe_ix (ix_tupK K) (pv 0) pe_int (fun _ _ => rfl)) pa_nil)) (pg_tupK K (n := 2) rfl (pgs_cons (pg_name (i := 4) sc_z_named.nd rfl (.inl rfl)) (pgs_cons (pg_name (i := 5) sc_z_named.nd rfl (.inl rfl)) pgs_nil)))
      (pss_one (ps_asg (pe_tup (pa_cons (pe_ix (ix_listK K) (pv 1) (pe_ix (ix_tupK K) (pv 5) pe_int (fun _ _ => rfl)) (fun _ _ => rfl)) (pa_cons (pe_ix (ix_listK K) (pv 1) (pe_ix (ix_tupK K) (pv 5) pe_int (fun _ _ => rfl)) (fun _ _ => rfl)) pa_nil))) (pg_sub (pv 3) (pe_ix (ix_listK K) (pv 2) (pv 4) (fun _ _ => rfl)) set_list))))
    (pss_one (ps_ret (pe_tup (pa_cons (pe_ix (ix_tupK K) (pv 0) pe_int (fun _ _ => rfl)) (pa_cons (pe_callTy (call_tupleK K) (by rfl) T.tuple (by decide +kernel) (pa_cons (pv 3) pa_nil)) pa_nil))))))), ?_⟩
  have lw := ok.le
  have la : as.length = w.2.length := by rw [pa_.length_eq, List.length_range]
  have lr : rs.length = w.1 := by rw [pr_.length_eq, List.length_range]
  have nda : as.Nodup := pa_.nodup_iff.mpr List.nodup_range
  refine q_asgO (en_rep (P := D (pD (0, 0))) (ev_lst (ea1 (ev_tupD (ds := [nI 0, nI 0]) (ea2 ev_int ev_int)))) (Ev.eq (ev_lenDT (ev_w1 (ev_var h1))) (by rw [List.length_map])) (by omega)) g0 fun p vs S1 H1 g1 e1 w1 a1 => ?_
  have h1 := (D _).up e1.st h1
  have h2 := (D _).up e1.st h2
  have h3 := (D _).up e1.st h3
  have a1 : All S1 vs ((List.replicate w.2.length ((0, 0) : Nat × Nat)).map fun q => D (pD q)) := by
    rw [List.map_replicate]
    exact a1
  refine q_for (ex_enumTD (ev_w1 (ev_var h1))) g1 (fun i σ S' H' => ∃ (y z : Option V) (vs : List V) (ps : List (Nat × Nat)), σ = [some v1, some v2, some v3, some (.ref p), y, z] ∧ Own md0 S H S' H' p (.lst vs) ∧ All S' vs (ps.map fun q => D (pD q)) ∧ ps.length = w.2.length ∧ ∀ a, a < i → ps.getD (as.getD a 0) (0, 0) = (rs.getD (be w a) 0, rs.getD (en w a) 0)) (fun S2 H2 e2 => ⟨none, none, vs, _, rfl, w1.step g1 e2, a1.up e2.st, List.length_replicate, fun a ha => by omega⟩) ?_ ?_
  · rintro Sb i a σ1 S2 H2 x S3 H3 hi eb g3 e3 ⟨y, z, vs, ps, rfl, w2, d2, lp, hps⟩ e4 ⟨q, v, pp, rfl, hq, hpp, hv⟩
    obtain ⟨rfl, hlt⟩ : a = i ∧ i < w.2.length := by
      have := List.getElem?_eq_some_iff.mp hi
      exact ⟨by simpa using this.2.symm, by simpa using this.1⟩
    have w3 := w2.step g3 e4
    have d3 := d2.up e4.st
    have h1 := (D _).up (eb.trans e3) h1
    have h2 := (D _).up (eb.trans e3) h2
    have h3 := (D _).up (eb.trans e3) h3
    rw [pr_at hlt] at hpp
    cases hpp
    refine eg_pair hq H3 _ g3.k.le ?_
    show tAsg _ _ _ [some v1, some v2, some v3, some (.ref p), some (.int (a : Nat)), some v] _
    obtain ⟨ia, ja⟩ := perm_get pa_ hlt
    have rb := ok.rng a hlt
    obtain ⟨ib, jb⟩ := perm_get pr_ rb.1
    obtain ⟨ic, jc⟩ := perm_get pr_ rb.2
    refine s_setO (P := D (pD (rs.getD (be w a) 0, rs.getD (en w a) 0))) (ev_tupD (ds := [nI (rs.getD (be w a) 0), nI (rs.getD (en w a) 0)]) (ea2 (ev_ixLN (ev_var h2) (ev_p0 (ev_var hv)) jb) (ev_ixLN (ev_var h2) (ev_p1 (ev_var hv)) jc))) ha_var (ev_ixLN (xs := as) (enc := nI) (ev_var h3) (ev_var (Dd.int _)) ja) g3 w3 (by rw [d3.len, List.length_map, lp]; exact ia) fun v' S4 H4 g4 e5 w4 hv' => ⟨S4, g4, e3.trans e5, _, _, vs.set (as.getD a 0) v', ps.set (as.getD a 0) (rs.getD (be w a) 0, rs.getD (en w a) 0), rfl, w4, ?_, by rw [List.length_set, lp], fun c hc => ?_⟩
    · rw [List.map_set]
      exact All.set (d3.up e5) _ hv'
    · rw [List.getD_eq_getElem?_getD, List.getElem?_set]
      by_cases hca : c = a
      · subst hca
        rw [if_pos rfl, if_pos (by rw [lp]; exact ia)]
        rfl
      · have ne : as.getD a 0 ≠ as.getD c 0 := fun z => by
          obtain ⟨_, jc'⟩ := perm_get pa_ (show c < w.2.length by omega)
          rw [← z] at jc'
          exact hca (nodup_at nda jc' ja)
        rw [if_neg ne, ← List.getD_eq_getElem?_getD]
        exact hps c (by omega)
  · rintro σ1 S2 H2 g2 e2 ⟨y, z, vs, ps, rfl, w2, d2, lp, hps⟩
    rw [List.length_range] at hps
    have gp := w2.put g2
    have h1 := (D _).up (e2.trans w2.puts) h1
    have hb : (LstT (ps.map fun q => D (pD q))).ok (L2.upd S2 p (.lst vs)) (.ref p) := ⟨p, vs, rfl, upd_same, d2.up (same_new w2.s)⟩
    refine s_ret (P := NamT w rs as) (Ev.conv (ev_tupD (ds := [nI w.1, .tuple (ps.map pD)]) (ea2 (ev_w0 (ev_var h1)) (Ev.tupD (Ev.conv (ev_tupleL (ev_var hb)) fun S v hv => by rw [List.map_map]; exact hv)))) fun S v hv => ⟨(w.1, ps), ⟨ok.toWOk, pr_, pa_, rfl, lp, hps⟩, hv⟩) gp k
end
end K49
end
section
set_option linter.all false
set_option maxRecDepth 100000
set_option maxHeartbeats 4000000
namespace K49
open PySem PySem.Spec PyProof.Rows L2 KR KD
/-- a test whose outcome is open -/
def EvU (md : Md) (S : Hp) (t : TT) (σ : L2.St) : Prop := ∀ S1 H R, Same S S1 → Ok md S1 H → (∀ b S' H', Gr md S1 H S' H' → R b H') → t σ H R
section
variable {md : Md} {S H S' H' S1 H1 S0 H0 : Hp} {K : PySem.W.Frag} {σ : L2.St} {ta tb te tx : TE} {t u : TT} {P P1 P2 P3 : KD.Ty} {D' : Ends} {tu tw tz : TS}
theorem q_ifU (h : EvU md S t σ) (g : Gr md S0 H0 S H) (h1 : ∀ S' H', Gr md S0 H0 S' H' → Gr md S H S' H' → tu { D' with nx := tz D' } σ H') (h2 : ∀ S' H', Gr md S0 H0 S' H' → Gr md S H S' H' → tw { D' with nx := tz D' } σ H') : tSeq (tIfS t tu tw) tz D' σ H :=
  h S H _ (Same.refl S) g.k fun b S' H' g' => by
    cases b with
    | true => exact h1 S' H' (g.trans g') g'
    | false => exact h2 S' H' (g.trans g') g'
theorem eu_eq {m : Nat} {j : Int} (h1 : Ev md S ta σ (Lt m)) (h2 : Ev md S tb σ (D (.int j))) : EvU md S (tTest (tOp rEq ta tb)) σ := fun S1 H R a o k =>
  h1 S1 H _ a o fun x S2 H2 g2 hx => h2 S2 H2 _ (a.trans g2.st) g2.k fun y S3 H3 g3 hy => by
    obtain ⟨r, _, rfl⟩ := hx
    rw [D_int hy]
    exact ⟨rfl, _, rfl, k _ S3 H3 (g2.trans g3)⟩
theorem eu_gt {m : Nat} {j : Int} (h1 : Ev md S ta σ (Lt m)) (h2 : Ev md S tb σ (D (.int j))) : EvU md S (tTest (tOp (rI0 fun i j => .bl (decide (j < i))) ta tb)) σ := fun S1 H R a o k =>
  h1 S1 H _ a o fun x S2 H2 g2 hx => h2 S2 H2 _ (a.trans g2.st) g2.k fun y S3 H3 g3 hy => by
    obtain ⟨r, _, rfl⟩ := hx
    rw [D_int hy]
    exact ⟨_, _, rfl, rfl, _, rfl, k _ S3 H3 (g2.trans g3)⟩
/-- a if t else b, the test open -/
theorem ev_ifU (h : EvU md S t σ) (h1 : Ev md S ta σ P) (h2 : Ev md S tb σ P) : Ev md S (tIf t ta tb) σ P := fun S1 H R e o k => h S1 H _ e o fun b S2 H2 g => by
  cases b with
  | true => exact h1 S2 H2 R (e.trans g.st) g.k fun v S3 H3 g3 hv => k v S3 H3 (g.trans g3) hv
  | false => exact h2 S2 H2 R (e.trans g.st) g.k fun v S3 H3 g3 hv => k v S3 H3 (g.trans g3) hv
theorem cut_take {ts : List KD.Ty} {c : Nat} : cutT ts none (some (c : Nat)) = ts.take c := by
  unfold cutT
  rw [HT.sIx_nat]
  show (ts.drop 0).take (min c ts.length - 0) = ts.take c
  rw [List.drop_zero, Nat.sub_zero, List.take_eq_take_iff]
  omega
def NatT (C : Nat → Prop) : KD.Ty := ⟨fun _ v => ∃ c : Nat, C c ∧ v = .int (c : Nat), fun _ h => h⟩
theorem ev_slU {C : Nat → Prop} {ts : List KD.Ty} (h : Ev md S te σ (LstT ts)) (h2 : Ev md S tb σ (NatT C)) : Ev md S (tSl (rSlL K) te tNoPart (tPart tb)) σ ⟨fun S v => ∃ c, C c ∧ (LstT (ts.take c)).ok S v, fun e ⟨c, h1, h2⟩ => ⟨c, h1, (LstT _).up e h2⟩⟩ := fun S1 H R a o k =>
  h S1 H _ a o fun v S2 H2 g2 hv => h2 S2 H2 _ (a.trans g2.st) g2.k fun x S3 H3 g3 hx => by
    obtain ⟨p, vs, rfl, e1, e2⟩ := hv
    obtain ⟨c, hc, rfl⟩ := hx
    refine ⟨c, rfl, p, vs, rfl, SqL.of (g3.k.le _ _ (g3.st _ _ e1)), fun q hq => k _ _ _ ((g2.trans g3).trans (g3.k.new hq)) ⟨c, hc, q, _, rfl, upd_same, ?_⟩⟩
    have := ((e2.up g3.st).cut none (some (c : Nat))).up (g3.k.new (o := .lst (cutV vs none (some (c : Nat)))) hq).st
    rw [cut_take] at this
    exact this
theorem ev_bag {b : Addr} {i : Nat} (h : σ[i]? = some (some (.ref b)) := by rfl) : Ev md S (tVar i) σ (IsV (.ref b)) := ev_var (P := IsV (.ref b)) rfl h
end
def sp_z_splits : Sp := spB (α := W × Nat × Nat × Nat) (fun a => Wb a.1 ∧ a.2.1 ≤ 100 ∧ a.2.2.1 ≤ 49 ∧ a.2.2.2 ≤ 100 ∧ a.1.1 ≤ a.2.2.1 ∧ a.1.2.length ≤ a.2.2.2) (fun a => [D (wD a.1), Lt a.2.1, D (nI a.2.2.1), D (nI a.2.2.2)]) (fun a => WebT a.2.2.1 a.2.2.2)
def sp_z_rich : Sp := spB (α := Nat × Nat) (fun a => 3 ≤ a.1 ∧ a.1 ≤ 49 ∧ 6 ≤ a.2 ∧ a.2 ≤ 100) (fun a => [D (nI a.1), D (nI a.2)]) (fun a => WebT a.1 a.2)
section
variable {P : Program} {w : World} {K : PySem.W.Frag} {mg : Str → Option Value} {base : Heap}
abbrev t_z_naming : Stmt := top 52
theorem sc_z_naming : FnScope ["_law_bag_here", "_law_w"] ["_law_bag_here", "_law_w"] (defScope t_z_naming) := ⟨rfl, rfl, rfl, by decide +kernel, rfl, by decide +kernel, by decide +kernel⟩
theorem ok_z_naming {f : Addr} {fd : FuncData} (F : Fun K "_law_naming" "_law_naming" t_z_naming f fd) (T : Txt mg)
    (C_z_mixed : Df P w K mg base "_law_mixed" 2 ["_law_bag_here", "_law_some"] sp_z_mixed)
    : FnOk P w K mg base CX0 3 f fd ["_law_bag_here", "_law_w"] sp_z_naming := by
  obtain ⟨f_z_mixed, fd_z_mixed, G_z_mixed, m_z_mixed, k_z_mixed, b_z_mixed⟩ := C_z_mixed.ex
  refine F.ok sc_z_naming (fun vs H Q E h => by obtain ⟨_, _, _, _, _, _, _, hv, _⟩ := h; exact hv.len) (fun cdv A outer s H vs Q E hr h => ?_)
  obtain ⟨b, l, ns, S, w, hd, o, hv, k⟩ := h
  obtain ⟨v1, v2, rfl, h1, h2⟩ := hv.two
  refine ⟨_, (pss_one (ps_ret (pe_tup (pa_cons (pe_call G_z_mixed (hr.mono (by decide)) (by rfl) m_z_mixed k_z_mixed b_z_mixed .nil pass0 (pa_cons (pv 0) (pa_cons (pe_listRg rfl (by rfl) T.list (prg_1 (by rfl) T.range (pe_ix (ix_tupK K) (pv 1) pe_int (fun _ _ => rfl)))) pa_nil))) (pa_cons (pe_call G_z_mixed (hr.mono (by decide)) (by rfl) m_z_mixed k_z_mixed b_z_mixed .nil pass0 (pa_cons (pv 0) (pa_cons (pe_listRg rfl (by rfl) T.list (prg_1 (by rfl) T.range (pe_callB (call_lenK K) (by rfl) T.len PySem.boot_len (pa_cons (pe_ix (ix_tupK K) (pv 1) pe_int (fun _ _ => rfl)) pa_nil)))) pa_nil))) pa_nil))))), ?_⟩
  have l1 := hd.few
  have l2 := hd.le
  refine s_ret (P := NmgT w) (Ev.conv (ev_tup (ts := [PermT ((List.range w.1).map nI), PermT ((List.range w.2.length).map nI)]) (ea2 (ev_callB ((List.range w.1).map nI) (by simp; omega) (ea2 (ev_var h1) (ev_listRg1 (ev_w0 (ev_var h2)) (by omega)))) (ev_callB ((List.range w.2.length).map nI) (by simp; omega) (ea2 (ev_var h1) (ev_listRg1 (Ev.eq (ev_lenDT (ev_w1 (ev_var h2))) (by rw [List.length_map])) (by omega)))))) fun S v hv => ?_) (Gr.refl o) k
  obtain ⟨a, vs, rfl, a1, a2⟩ := hv
  obtain ⟨x, y, rfl, ⟨e1, p1, d1⟩, e2, p2, d2⟩ := a2.two
  obtain ⟨rs, q1, rfl⟩ := perm_of_map nI _ _ p1
  obtain ⟨as, q2, rfl⟩ := perm_of_map nI _ _ p2
  exact ⟨rs, as, q1, q2, a, _, rfl, a1, .cons d1 (.cons d2 .nil)⟩
abbrev t_z_part : Stmt := top 53
theorem sc_z_part : FnScope ["_law_bag_here", "_law_w", "_law_room", "_law_outs_here"] ["_law_bag_here", "_law_w", "_law_room"] (defScope t_z_part) := ⟨rfl, rfl, rfl, by decide +kernel, rfl, by decide +kernel, by decide +kernel⟩
theorem ok_z_part {f : Addr} {fd : FuncData} (F : Fun K "_law_part" "_law_part" t_z_part f fd) (T : Txt mg)
    (C_z_mixed : Df P w K mg base "_law_mixed" 2 ["_law_bag_here", "_law_some"] sp_z_mixed)
    (C_z_outs : Df P w K mg base "_law_outs" 1 ["_law_w", "_law_room"] sp_z_outs)
    (C_z_pull : Df P w K mg base "_law_pull" 1 ["_law_bag_here", "_law_many_here"] sp_z_pull)
    : FnOk P w K mg base CX0 3 f fd ["_law_bag_here", "_law_w", "_law_room"] sp_z_part := by
  obtain ⟨f_z_mixed, fd_z_mixed, G_z_mixed, m_z_mixed, k_z_mixed, b_z_mixed⟩ := C_z_mixed.ex
  obtain ⟨f_z_outs, fd_z_outs, G_z_outs, m_z_outs, k_z_outs, b_z_outs⟩ := C_z_outs.ex
  obtain ⟨f_z_pull, fd_z_pull, G_z_pull, m_z_pull, k_z_pull, b_z_pull⟩ := C_z_pull.ex
  refine F.ok sc_z_part (fun vs H Q E h => by obtain ⟨_, _, _, _, _, _, _, hv, _⟩ := h; exact hv.len) (fun cdv A outer s H vs Q E hr h => ?_)
  obtain ⟨b, l, ns, S, ⟨w, room⟩, hd, o, hv, k⟩ := h
  dsimp only at hd hv k
  obtain ⟨v1, v2, v3, rfl, h1, h2, h3⟩ := hv.three
  obtain rfl : v1 = .ref b := h1
  refine ⟨_, (pss_cons (ps_set (i := 3) sc_z_part.nd rfl (.inl rfl) (pe_call G_z_mixed (hr.mono (by decide)) (by rfl) m_z_mixed k_z_mixed b_z_mixed .nil pass0 (pa_cons (pv 0) (pa_cons (pe_call G_z_outs (hr.mono (by decide)) (by rfl) m_z_outs k_z_outs b_z_outs .nil pass0 (pa_cons (pv 1) (pa_cons (pv 2) pa_nil))) pa_nil))))
    (pss_one (ps_ret (pe_ifExp (pt_cmpR op_gt (pe_callB (call_lenK K) (by rfl) T.len PySem.boot_len (pa_cons (pv 3) pa_nil)) pe_int (nomark _)) (pe_slice (sl_listK K) (pv 3) po_none (po_some (pe_op op_add pe_int (pe_call G_z_pull (hr.mono (by decide)) (by rfl) m_z_pull k_z_pull b_z_pull .nil pass0 (pa_cons (pv 0) (pa_cons (pe_op op_sub (pe_callB (call_lenK K) (by rfl) T.len PySem.boot_len (pa_cons (pv 3) pa_nil)) pe_int) pa_nil)))))) (pe_lst pa_nil))))), ?_⟩
  have lo := outs_le w room
  have lw := hd.le
  refine q_asg (P := PermT ((outs w room).map nI)) (ev_callB ((outs w room).map nI) (by simp; omega) (ea2 ev_bag (ev_call (w, room) (Nat.le_trans lw (by decide)) (ea2 (ev_var h2) (ev_var h3))))) (Gr.refl o) fun v4 S1 H1 g1 e1 h4 => ?_
  obtain ⟨es, p1, h4⟩ := h4
  obtain ⟨qs, pq, rfl⟩ := perm_of_map nI _ _ p1
  have h4 : (D (lI qs)).ok S1 v4 := h4
  have lq := pq.length_eq
  have nd : qs.Nodup := pq.nodup_iff.mpr (List.Pairwise.imp (fun h => Nat.ne_of_lt h) (outs_lt w room))
  refine s_ret (P := PartT w room) (ev_if (et_val (ev_opB (ev_lenDL (ev_var h4)) ev_int)) (fun hq => ?_) (fun hq => ?_)) g1 k
  · have hq : 1 < qs.length := by
      have : (1 : Int) < (qs.length : Nat) := by simpa using hq
      omega
    refine Ev.conv (ev_slU (C := fun c => 0 < c ∧ c < qs.length) (ev_var (D_lst.1 h4)) (ev_op (P2 := Lt (qs.length - 1)) (ev_int (i := 1)) (ev_callB (qs.length - 1) ⟨by omega, by omega⟩ (ea2 ev_bag (Ev.eq (ev_opI (g := fun i j => i - j) (ev_lenDL (ev_var h4)) ev_int) (by show PyData.int _ = PyData.int _; congr 1; rw [List.length_map]; omega)))) ?_)) ?_
    · rintro S1 x y e hx ⟨r, hr, rfl⟩
      rw [D_int hx]
      exact rv_I0 fun _ => ⟨r + 1, ⟨by omega, by omega⟩, by
        congr 1
        omega⟩
    · rintro S2 v ⟨c, ⟨c0, c1⟩, h7⟩
      refine ⟨qs.take c, ⟨fun a ha => pq.mem_iff.mp (List.mem_of_mem_take ha), fun _ => ⟨qs[qs.length - 1], pq.mem_iff.mp (List.getElem_mem _), fun hm => ?_⟩⟩, ?_⟩
      · obtain ⟨i, hi, e⟩ := List.getElem_of_mem hm
        rw [List.length_take] at hi
        rw [List.getElem_take] at e
        have := (List.getElem_inj nd).mp e
        omega
      · refine D_lst.2 ?_
        rw [List.map_take, List.map_take]
        exact h7
  · exact Ev.conv (ev_lstD (ds := []) ea_nil) fun S v hv => ⟨[], ⟨fun a ha => (by cases ha), fun z => absurd rfl z⟩, hv⟩
abbrev t_z_splits : Stmt := top 54
theorem sc_z_splits : FnScope ["_law_bag_here", "_law_w", "_law_times", "_law_rooms_most", "_law_arrows_most", "_law_k", "_law_room", "_law_part_here", "_law_good"] ["_law_bag_here", "_law_w", "_law_times", "_law_rooms_most", "_law_arrows_most"] (defScope t_z_splits) := ⟨rfl, rfl, rfl, by decide +kernel, rfl, by decide +kernel, by decide +kernel⟩
theorem ok_z_splits {f : Addr} {fd : FuncData} (F : Fun K "_law_splits" "_law_splits" t_z_splits f fd) (T : Txt mg)
    (C_z_ins : Df P w K mg base "_law_ins" 1 ["_law_w", "_law_room"] sp_z_ins)
    (C_z_part : Df P w K mg base "_law_part" 3 ["_law_bag_here", "_law_w", "_law_room"] sp_z_part)
    (C_z_pull : Df P w K mg base "_law_pull" 1 ["_law_bag_here", "_law_many_here"] sp_z_pull)
    (C_z_split : Df P w K mg base "_law_split" 2 ["_law_w", "_law_room", "_law_part_here"] sp_z_split)
    : FnOk P w K mg base CX0 4 f fd ["_law_bag_here", "_law_w", "_law_times", "_law_rooms_most", "_law_arrows_most"] sp_z_splits := by
  obtain ⟨f_z_ins, fd_z_ins, G_z_ins, m_z_ins, k_z_ins, b_z_ins⟩ := C_z_ins.ex
  obtain ⟨f_z_part, fd_z_part, G_z_part, m_z_part, k_z_part, b_z_part⟩ := C_z_part.ex
  obtain ⟨f_z_pull, fd_z_pull, G_z_pull, m_z_pull, k_z_pull, b_z_pull⟩ := C_z_pull.ex
  obtain ⟨f_z_split, fd_z_split, G_z_split, m_z_split, k_z_split, b_z_split⟩ := C_z_split.ex
  refine F.ok sc_z_splits (fun vs H Q E h => by obtain ⟨_, _, _, _, _, _, _, hv, _⟩ := h; exact hv.len) (fun cdv A outer s H vs Q E hr h => ?_)
  obtain ⟨b, l, ns, S, ⟨w, tm, rm, am⟩, ⟨d1, d2, d3, d4, d5, d6⟩, o, hv, k⟩ := h
  dsimp only at d1 d2 d3 d4 d5 d6 hv k
  cases hv with | cons h1 hv => ?_
  obtain ⟨v2, v3, v4, v5, rfl, h2, h3, h4, h5⟩ := hv.four
  rename_i v1
  obtain rfl : v1 = .ref b := h1
  refine ⟨_, (pss_cons (ps_for PassesOwn.never rfl (pi_range1 (by rfl) T.range (pa_cons (pv 2) pa_nil)) (pg_name (i := 5) sc_z_splits.nd rfl (.inl rfl))
      (pss_cons (ps_set (i := 6) sc_z_splits.nd rfl (.inl rfl) (pe_call G_z_pull (hr.mono (by decide)) (by rfl) m_z_pull k_z_pull b_z_pull .nil pass0 (pa_cons (pv 0) (pa_cons (pe_ix (ix_tupK K) (pv 1) pe_int (fun _ _ => rfl)) pa_nil))))
      (pss_cons (ps_set (i := 7) sc_z_splits.nd rfl (.inl rfl) (pe_call G_z_part (hr.mono (by decide)) (by rfl) m_z_part k_z_part b_z_part .nil pass0 (pa_cons (pv 0) (pa_cons (pv 1) (pa_cons (pv 6) pa_nil)))))
      (pss_cons (ps_set (i := 8) sc_z_splits.nd rfl (.inl rfl) (pe_and (pe_cmpR (op_neDK K hr.units) (pv 7) (pe_lst pa_nil) (nomark _)) (pe_and (pe_cmpR op_lt (pe_ix (ix_tupK K) (pv 1) pe_int (fun _ _ => rfl)) (pv 3) (nomark _)) (pe_one (pe_cmpR op_le (pe_op op_add (pe_callB (call_lenK K) (by rfl) T.len PySem.boot_len (pa_cons (pe_ix (ix_tupK K) (pv 1) pe_int (fun _ _ => rfl)) pa_nil)) (pe_callB (call_lenK K) (by rfl) T.len PySem.boot_len (pa_cons (pe_call G_z_ins (hr.mono (by decide)) (by rfl) m_z_ins k_z_ins b_z_ins .nil pass0 (pa_cons (pv 1) (pa_cons (pv 6) pa_nil))) pa_nil))) (pv 4) (nomark _))))))
      (pss_one (ps_if (pt_val (pv 8))
        (pss_one (ps_set (i := 1) sc_z_splits.nd rfl (.inl rfl) (pe_ix (ix_tupK K) (pe_call G_z_split (hr.mono (by decide)) (by rfl) m_z_split k_z_split b_z_split .nil pass0 (pa_cons (pv 1) (pa_cons (pv 6) (pa_cons (pv 7) pa_nil)))) pe_int (fun _ _ => rfl))))
        pss_nil))))))
    (pss_one (ps_ret (pv 1)))), ?_⟩
  have g0 : Gr (bagMd b l ns) S H S H := Gr.refl o
  obtain ⟨n, hn, rfl⟩ := h3
  refine q_for (xs := List.range n) (ex_rng1 (ev_var (Dd.int _)) (by omega)) g0 (fun i σ S' H' => ∃ (w : W) (u : V) (x y z t : Option V), σ = [some (.ref b), some u, some (.int (n : Nat)), some v4, some v5, x, y, z, t] ∧ Wb w ∧ w.1 ≤ rm ∧ w.2.length ≤ am ∧ (D (wD w)).ok S' u) (fun S2 H2 e2 => ⟨w, v2, none, none, none, none, rfl, d1, d5, d6, (D _).up e2.st h2⟩) ?_ ?_
  · rintro Sb i a σ1 S1 H1 x S2 H2 hi eb g2 e2 ⟨w, u, x0, y, z, t, rfl, ok, r1, a1, hw⟩ e3 rfl
    have hw := (D _).up e3.st hw
    have h4 := (D _).up (eb.trans e2) h4
    have h5 := (D _).up (eb.trans e2) h5
    have fw := ok.few
    have lw := ok.le
    show tSeq (tAsg _ (gName 6)) _ _ [some (.ref b), some u, some (.int (n : Nat)), some v4, some v5, some (.int (a : Nat)), y, z, t] _
    refine q_asg (P := Lt w.1) (ev_callB w.1 ⟨ok.pos, by omega⟩ (ea2 ev_bag (ev_w0 (ev_var hw)))) g2 fun v6 S3 H3 g3 e4 h6 => ?_
    obtain ⟨room, hroom, rfl⟩ := h6
    have hw := (D _).up e4.st hw
    refine q_asg (P := PartT w room) (ev_callB (w, room) ok (ea3 ev_bag (ev_var hw) (ev_var (Dd.int _)))) g3 fun v7 S4 H4 g4 e5 h7 => ?_
    obtain ⟨part, hp, h7⟩ := h7
    have hw := (D _).up e5.st hw
    have h4 := (D _).up (e4.st.trans e5.st) h4
    have h5 := (D _).up (e4.st.trans e5.st) h5
    refine q_asg (P := D (.bool (!part.isEmpty && (decide (w.1 < rm) && decide (w.2.length + (ins w room).length ≤ am))))) (ev_andV (Ev.eq (ev_neD (ev_var h7) (ev_lstD (ds := []) ea_nil) (shp_lI part).shaped shp_nil.shaped) ?_) fun _ => ev_andV (Ev.eq (ev_opB (ev_w0 (ev_var hw)) (ev_var h4)) ?_) fun _ => Ev.eq (ev_opB (ev_opI (ev_lenDT (ev_w1 (ev_var hw))) (ev_lenDL (ev_call (w, room) (Nat.le_trans lw (by decide)) (ea2 (ev_var hw) (ev_var (Dd.int _)))))) (ev_var h5)) ?_) g4 fun v8 S5 H5 g5 e6 h8 => ?_
    · show PyData.bool (!PyData.eqv (.list (part.map nI)) (.list [])) = _
      rw [eqv_nilR]
      cases part <;> rfl
    · show PyData.bool (decide ((w.1 : Int) < (rm : Int))) = _
      congr 1
      exact decide_eq_decide.mpr (by omega)
    · show PyData.bool (decide ((((w.2.map pD).length : Nat) : Int) + ((((ins w room).map nI).length : Nat) : Int) ≤ (am : Int))) = _
      rw [List.length_map, List.length_map]
      congr 1
      exact decide_eq_decide.mpr (by omega)
    obtain rfl := D_bl h8
    have hw := (D _).up e6.st hw
    have h7 := (D _).up e6.st h7
    refine s_if (et_B (ev_var (Dd.bl _))) g5 (fun hq S6 H6 g6 e7 => ?_) (fun hq S6 H6 g6 e7 => ⟨S6, g6, ((e2.trans e4.st).trans (e5.st.trans e6.st)).trans e7.st, w, u, _, _, _, _, rfl, ok, r1, a1, (D _).up e7.st hw⟩)
    rw [Bool.and_eq_true, Bool.and_eq_true] at hq
    obtain ⟨q1, q2, q3⟩ := hq
    have ne : part ≠ [] := by
      rintro rfl
      cases q1
    have q2 : w.1 < rm := by simpa using q2
    have q3 : w.2.length + (ins w room).length ≤ am := by simpa using q3
    have so : SplOk w room part := ⟨ok.toWOk, hroom, hp.sub, ne, hp.few ne⟩
    refine s_asg (P := D (wD (splW w room part))) (ev_ixT (j := 0) (ev_call (w, room, part) ok (ea3 (ev_var ((D _).up e7.st hw)) (ev_var (Dd.int _)) (ev_var ((D _).up e7.st h7)))) ev_int rfl rfl) g6 fun v9 S7 H7 g7 e8 h9 => ⟨S7, g7, (((e2.trans e4.st).trans (e5.st.trans e6.st)).trans e7.st).trans e8.st, splW w room part, v9, _, _, _, _, rfl, ⟨spl_ok so, ?_, ?_⟩, ?_, ?_, h9⟩
    · show w.1 + 1 ≤ 50
      omega
    · rw [splW_len]
      omega
    · show w.1 + 1 ≤ rm
      omega
    · rw [splW_len]
      omega
  · rintro σ1 S1 H1 g1 e1 ⟨w, u, x, y, z, t, rfl, ok, r1, a1, hw⟩
    exact s_ret (P := WebT rm am) (ev_var (show (WebT rm am).ok S1 u from ⟨w, ok.toWOk, r1, a1, hw⟩)) g1 k
abbrev t_z_rich : Stmt := top 55
theorem sc_z_rich : FnScope ["_law_bag_here", "_law_rooms_most", "_law_arrows_most", "_law_w", "_law_rooms", "_law_arrows"] ["_law_bag_here", "_law_rooms_most", "_law_arrows_most"] (defScope t_z_rich) := ⟨rfl, rfl, rfl, by decide +kernel, rfl, by decide +kernel, by decide +kernel⟩
theorem ok_z_rich {f : Addr} {fd : FuncData} (F : Fun K "_law_rich" "_law_rich" t_z_rich f fd) (T : Txt mg)
    (C_z_named : Df P w K mg base "_law_named" 1 ["_law_w", "_law_rooms", "_law_arrows"] sp_z_named)
    (C_z_naming : Df P w K mg base "_law_naming" 3 ["_law_bag_here", "_law_w"] sp_z_naming)
    (C_z_pull : Df P w K mg base "_law_pull" 1 ["_law_bag_here", "_law_many_here"] sp_z_pull)
    (C_z_splits : Df P w K mg base "_law_splits" 4 ["_law_bag_here", "_law_w", "_law_times", "_law_rooms_most", "_law_arrows_most"] sp_z_splits)
    (C_z_web : Df P w K mg base "_law_web" 3 ["_law_bag_here", "_law_rooms_most", "_law_more_most"] sp_z_web)
    : FnOk P w K mg base CX0 5 f fd ["_law_bag_here", "_law_rooms_most", "_law_arrows_most"] sp_z_rich := by
  obtain ⟨f_z_named, fd_z_named, G_z_named, m_z_named, k_z_named, b_z_named⟩ := C_z_named.ex
  obtain ⟨f_z_naming, fd_z_naming, G_z_naming, m_z_naming, k_z_naming, b_z_naming⟩ := C_z_naming.ex
  obtain ⟨f_z_pull, fd_z_pull, G_z_pull, m_z_pull, k_z_pull, b_z_pull⟩ := C_z_pull.ex
  obtain ⟨f_z_splits, fd_z_splits, G_z_splits, m_z_splits, k_z_splits, b_z_splits⟩ := C_z_splits.ex
  obtain ⟨f_z_web, fd_z_web, G_z_web, m_z_web, k_z_web, b_z_web⟩ := C_z_web.ex
  refine F.ok sc_z_rich (fun vs H Q E h => by obtain ⟨_, _, _, _, _, _, _, hv, _⟩ := h; exact hv.len) (fun cdv A outer s H vs Q E hr h => ?_)
  obtain ⟨b, l, ns, S, ⟨rm, am⟩, ⟨d1, d2, d3, d4⟩, o, hv, k⟩ := h
  dsimp only at d1 d2 d3 d4 hv k
  obtain ⟨v1, v2, v3, rfl, h1, h2, h3⟩ := hv.three
  obtain rfl : v1 = .ref b := h1
  refine ⟨_, (pss_cons (ps_set (i := 3) sc_z_rich.nd rfl (.inl rfl) (pe_call G_z_web (hr.mono (by decide)) (by rfl) m_z_web k_z_web b_z_web .nil pass0 (pa_cons (pv 0) (pa_cons pe_int (pa_cons pe_int pa_nil)))))
    (pss_cons (ps_set (i := 3) sc_z_rich.nd rfl (.inl rfl) (pe_call G_z_splits (hr.mono (by decide)) (by rfl) m_z_splits k_z_splits b_z_splits .nil pass0 (pa_cons (pv 0) (pa_cons (pv 3) (pa_cons (pe_call G_z_pull (hr.mono (by decide)) (by rfl) m_z_pull k_z_pull b_z_pull .nil pass0 (pa_cons (pv 0) (pa_cons pe_int pa_nil))) (pa_cons (pv 1) (pa_cons (pv 2) pa_nil)))))))
    (pss_cons (ps_if (pt_cmpR op_eq (pe_call G_z_pull (hr.mono (by decide)) (by rfl) m_z_pull k_z_pull b_z_pull .nil pass0 (pa_cons (pv 0) (pa_cons pe_int pa_nil))) pe_int (nomark _))
      (pss_cons (ps_asg (pe_call G_z_naming (hr.mono (by decide)) (by rfl) m_z_naming k_z_naming b_z_naming .nil pass0 (pa_cons (pv 0) (pa_cons (pv 3) pa_nil))) (pg_tupK K (n := 2) rfl (pgs_cons (pg_name (i := 4) sc_z_rich.nd rfl (.inl rfl)) (pgs_cons (pg_name (i := 5) sc_z_rich.nd rfl (.inl rfl)) pgs_nil))))
      (pss_one (ps_set (i := 3) sc_z_rich.nd rfl (.inl rfl) (pe_call G_z_named (hr.mono (by decide)) (by rfl) m_z_named k_z_named b_z_named .nil pass0 (pa_cons (pv 3) (pa_cons (pv 4) (pa_cons (pv 5) pa_nil)))))))
      pss_nil)
    (pss_one (ps_ret (pv 3)))))), ?_⟩
  have g0 : Gr (bagMd b l ns) S H S H := Gr.refl o
  refine q_asg (P := WebT 3 6) (ev_callB (3, 3) ⟨by decide, by decide, by decide⟩ (ea3 ev_bag ev_int ev_int)) g0 fun v4 S1 H1 g1 e1 h4 => ?_
  obtain ⟨w, ok, r1, a1, h4⟩ := h4
  have h2' := (D _).up e1.st h2
  have h3' := (D _).up e1.st h3
  refine q_asg (P := WebT rm am) (ev_callB (w, 4, rm, am) ⟨⟨ok, (by show w.1 ≤ 50; omega), (by show w.2.length ≤ 100; omega)⟩, (by show 4 ≤ 100; omega), d2, d4, (by show w.1 ≤ rm; omega), (by show w.2.length ≤ am; omega)⟩ (ea_cons ev_bag (ea_cons (ev_var h4) (ea3 (ev_callB 4 ⟨by decide, by decide⟩ (ea2 ev_bag ev_int)) (ev_var h2') (ev_var h3'))))) g1 fun v5 S2 H2 g2 e2 h5 => ?_
  obtain ⟨w, ok, r1, a1, h5⟩ := h5
  refine q_mid (fun σ H' => ∃ (S' : Hp) (u : V) (y z : Option V), σ = [some (.ref b), some v2, some v3, some u, y, z] ∧ Gr (bagMd b l ns) S H S' H' ∧ (WebT rm am).ok S' u) ?_ fun tail => ?_
  · rintro σ H' ⟨S', u, y, z, rfl, g, hu⟩
    exact s_ret (ev_var hu) g k
  · refine q_ifU (eu_eq (ev_callB 2 ⟨by decide, by decide⟩ (ea2 ev_bag ev_int)) ev_int) g2 (fun S3 H3 g3 e3 => ?_) (fun S3 H3 g3 e3 => tail _ _ ⟨S3, v5, _, _, rfl, g3, w, ok, r1, a1, (D _).up e3.st h5⟩)
    have h5 := (D _).up e3.st h5
    have wb : Wb w := ⟨ok, by omega, by omega⟩
    have hnm : Ev (bagMd b l ns) S3 (tCall sp_z_naming [] E0 (tCons (tVar 0) (tCons (tVar 3) tNil))) [some (.ref b), some v2, some v3, some v5, none, none] (NmgT w) := ev_callB w wb (ea2 ev_bag (ev_var h5))
    refine hnm S3 H3 _ (Same.refl _) g3.k fun v6 S4 H4 g4 h6 => ?_
    obtain ⟨rs, as, p1, p2, a, vs, rfl, f1, f2⟩ := h6
    obtain ⟨x, y, rfl, hx, hy⟩ := f2.two
    refine ⟨a, _, rfl, SqT.of (g4.k.le _ _ f1), rfl, _, _, rfl, _, _, rfl, rfl, ?_⟩
    dsimp only
    show tAsg _ (gName 3) _ [some (.ref b), some v2, some v3, some v5, some x, some y] _
    refine s_asg (P := NamT w rs as) (ev_call (w, rs, as) ⟨wb, p1, p2⟩ (ea3 (ev_var ((D _).up g4.st h5)) (ev_var hx) (ev_var hy))) (g3.trans g4) fun v7 S5 H5 g5 e5 h7 => tail _ _ ⟨S5, v7, _, _, rfl, g5, ?_⟩
    obtain ⟨u, nu, hu⟩ := h7
    exact ⟨u, nam_ok nu, by rw [nu.n]; exact r1, by rw [nu.len]; exact a1, hu⟩
end
end K49
end
section
set_option linter.all false
set_option maxRecDepth 100000
set_option maxHeartbeats 4000000
namespace K49
open PySem PySem.Spec PyProof.Rows L2 KR KD
def sp_z_least : Sp := spP (α := W × W × Nat × Tb) (fun a => WOk a.1 ∧ (rowsN a.1 a.2.2.1).length ≤ 1000 ∧ many a.1 (a.2.2.1 + 1) ≤ 1000) (fun a => [RdT a.1 a.2.1 a.2.2.1 a.2.2.2]) (fun a => RdT a.1 a.2.1 (lst a.1 a.2.2.1 a.2.2.2).1 (lst a.1 a.2.2.1 a.2.2.2).2)
/-- the beginnings met so far, each with what its first row is told -/
def lat (w : W) (j : Nat) (T : Tb) (m : Nat) : List (List Nat × Nat) := ((rowsN w j).take m).map fun p => (p, T (ext1 w p))
theorem lat_full (w : W) (j : Nat) (T : Tb) : lat w j T (rowsN w j).length = tb w j fun p => T (ext1 w p) := by
  unfold lat tb
  rw [List.take_length]
theorem lat_new {w : W} {j : Nat} {T : Tb} {m : Nat} {p : List Nat} (h : (rowsN w j)[m]? = some p) : lk (lat w j T m) p = none ∧ lat w j T (m + 1) = lat w j T m ++ [(p, T (ext1 w p))] := by
  constructor
  · refine lk_not (T := fun p => T (ext1 w p)) fun hm => ?_
    obtain ⟨i, hi, e⟩ := List.getElem_of_mem hm
    rw [List.length_take] at hi
    rw [List.getElem_take] at e
    have h1 : (rowsN w j)[i]? = some p := by rw [← e]; exact List.getElem?_eq_getElem (by omega)
    have nd := rowsN_nodup w j
    obtain ⟨a1, b1⟩ := List.getElem?_eq_some_iff.mp h1
    obtain ⟨a2, b2⟩ := List.getElem?_eq_some_iff.mp h
    have := (List.getElem_inj nd).mp (b1.trans b2.symm)
    omega
  · unfold lat
    rw [List.take_add_one, h, List.map_append]
    rfl
theorem lat_old {w : W} {j : Nat} {T : Tb} {m : Nat} {p : List Nat} (h0 : 0 < m) (h : (rowsN w j)[m - 1]? = some p) : lk (lat w j T m) p = some (T (ext1 w p)) ∧ ∀ q ∈ lat w j T m, q.1 = p → q.2 = T (ext1 w p) := by
  have hm : p ∈ (rowsN w j).take m := by
    rw [← Nat.sub_add_cancel h0, List.take_add_one, h]
    exact List.mem_append_right _ (List.mem_singleton.mpr rfl)
  exact ⟨lk_map (T := fun p => T (ext1 w p)) hm, fun q hq e => by
    obtain ⟨s, _, rfl⟩ := List.mem_map.mp hq
    rw [← e]⟩
theorem lat_len (w : W) (j : Nat) (T : Tb) (m : Nat) : (lat w j T m).length ≤ (rowsN w j).length := by
  unfold lat
  rw [List.length_map, List.length_take]
  omega
section
variable {P : Program} {w : World} {K : PySem.W.Frag} {mg : Str → Option Value} {base : Heap}
theorem ret_rd {w v : W} {m : Nat} {U : Tb} {S0 H0 S H : Hp} {σ : L2.St} {x1 x2 t : V} {D' : Ends} (g : Gr md0 S0 H0 S H) (h1 : (D (wD w)).ok S x1) (h2 : (D (wD v)).ok S x2) (ht : (DctT (tb w m U)).ok S t) (s1 : σ[1]? = some (some x1)) (s2 : σ[2]? = some (some x2)) (s3 : σ[3]? = some (some (.int ((m + 1 : Nat) : Int)))) (s4 : σ[4]? = some (some t))
    (k : ∀ v' S' H', Gr md0 S0 H0 S' H' → (RdT w v m U).ok S' v' → D'.rt v' H') : tRet (tTup (tCons (tVar 1) (tCons (tVar 2) (tCons (tVar 3) (tCons (tVar 4) tNil))))) D' σ H :=
  s_ret (ev_tup (ts := [D (wD w), D (wD v), D (nI (m + 1)), DctT (tb w m U)]) (ea_cons (ev_var h1 s1) (ea3 (ev_var h2 s2) (ev_var (Dd.int _) s3) (ev_var ht s4)))) g k
abbrev t_z_least : Stmt := top 57
theorem sc_z_least : FnScope ["_law_f", "_law_w", "_law_v", "_law_wide", "_law_table", "_law_later", "_law_row"] ["_law_f"] (defScope t_z_least) := ⟨rfl, rfl, rfl, by decide +kernel, rfl, by decide +kernel, by decide +kernel⟩
theorem ok_z_least {f : Addr} {fd : FuncData} (F : Fun K "_law_least" "_law_least" t_z_least f fd) (T : Txt mg)
    : FnOk P w K mg base CX0 1 f fd ["_law_f"] sp_z_least := by
  refine F.ok sc_z_least (fun vs H Q E h => by obtain ⟨_, _, _, _, hv, _⟩ := h; exact hv.len) (fun cdv A outer s H vs Q E hr h => ?_)
  obtain ⟨S, ⟨w, v, j, U0⟩, hd, hS, hv, k⟩ := h
  dsimp only at hd hv k
  have g0 : Gr md0 S H S H := Gr.refl (ok0 hS)
  obtain ⟨ok, hl, hm⟩ := hd
  obtain ⟨vf, rfl, hf⟩ := hv.one
  refine ⟨_, (pss_cons (ps_asg (pv 0) (pg_tupK K (n := 4) rfl (pgs_cons (pg_name (i := 1) sc_z_least.nd rfl (.inl rfl)) (pgs_cons (pg_name (i := 2) sc_z_least.nd rfl (.inl rfl)) (pgs_cons (pg_name (i := 3) sc_z_least.nd rfl (.inl rfl)) (pgs_cons (pg_name (i := 4) sc_z_least.nd rfl (.inl rfl)) pgs_nil))))))
    (pss_cons (ps_while PassesOwn.never (pt_cmpR op_gt (pv 3) pe_int (nomark _))
      (pss_cons (ps_set (i := 5) sc_z_least.nd rfl (.inl rfl) pe_dnewT)
      (pss_cons (ps_for PassesOwn.never rfl (pi_listK K (pe_callB (cr_sortedDT rfl hr.units) (by rfl) T.sorted (by decide +kernel) (pa_cons (pv 4) pa_nil))) (pg_name (i := 6) sc_z_least.nd rfl (.inl rfl))
        (pss_cons (ps_if (pt_cmpR op_ne (pe_dget2 (hu_of hr) (pv 5) (pe_slice (sl_tupAK K) (pv 6) po_none (po_some (pe_un un_neg pe_int))) (pe_dget (hu_of hr) (pv 4) (pv 6) (fun _ _ => rfl)) ⟨rfl, rfl, rfl, rfl⟩) (pe_dget (hu_of hr) (pv 4) (pv 6) (fun _ _ => rfl)) (nomark _))
          (pss_one (ps_ret (pe_tup (pa_cons (pv 1) (pa_cons (pv 2) (pa_cons (pv 3) (pa_cons (pv 4) pa_nil)))))))
          pss_nil)
        (pss_one (ps_dput (hu_of hr) (pv 5) (pe_slice (sl_tupAK K) (pv 6) po_none (po_some (pe_un un_neg pe_int))) (pe_dget (hu_of hr) (pv 4) (pv 6) (fun _ _ => rfl)) rfl))))
      (pss_one (ps_frz (ps_par (i := 3) (j := 4) (by rfl) sc_z_least.nd rfl rfl (by decide) rfl rfl (pa_cons (pe_op op_sub (pv 3) pe_int) (pa_cons (pv 5) pa_nil)) (by rfl)))))))
    (pss_one (ps_ret (pe_tup (pa_cons (pv 1) (pa_cons (pv 2) (pa_cons (pv 3) (pa_cons (pv 4) pa_nil))))))))), ?_⟩
  obtain ⟨af, vs, rfl, f1, f2⟩ := id hf
  obtain ⟨x1, x2, x3, x4, rfl, y1, y2, y3, y4⟩ := f2.four
  obtain rfl := D_int y3
  refine ⟨_, rfl, af, _, rfl, SqT.of (hS _ _ f1), rfl, _, _, rfl, _, _, rfl, _, _, rfl, _, _, rfl, rfl, ?_⟩
  show tSeq (tWhile _ _) _ _ [some (.ref af), some x1, some x2, some (.int ((j + 1 : Nat) : Int)), some x4, none, none] H
  refine q_while (fun m σ S' _ => ∃ (U : Tb) (t : V) (y z : Option V), σ = [some (.ref af), some x1, some x2, some (.int ((m + 1 : Nat) : Int)), some t, y, z] ∧ (DctT (tb w m U)).ok S' t ∧ Same S S' ∧ lst w j U0 = lst w m U ∧ m ≤ j) j g0 ⟨U0, x4, none, none, rfl, y4, Same.refl _, rfl, Nat.le_refl _⟩ ?_
  rintro m σ1 S1 H1 g1 ⟨U, t, y, z, rfl, ht, hss, hl1, hmj⟩
  refine ⟨decide (0 < m), et_val (Ev.eq (ev_opB (ev_var (Dd.int _)) ev_int) (by
    congr 1
    exact decide_eq_decide.mpr (by omega))), fun hb S2 H2 g2 e2 => ?_, fun hb S2 H2 g2 e2 => ?_⟩
  · -- one less
    have hm0 : 0 < m := by simpa using hb
    obtain ⟨n, rfl⟩ : ∃ n, m = n + 1 := ⟨m - 1, by omega⟩
    have ht := (DctT _).up e2.st ht
    have hc1 : (rowsN w (n + 1)).length ≤ 1000 := by rw [rowsN_len ok]; exact Nat.le_trans (many_mono ok (by omega)) hm
    have hc0 : (rowsN w n).length ≤ 1000 := by rw [rowsN_len ok]; exact Nat.le_trans (many_mono ok (by omega)) hm
    refine q_newT g2 fun d H3 g3 e3 w3 => ?_
    refine q_for (ex_listD (xs := rowsN w (n + 1)) (enc := tI) (ev_sortR (ev_var ht))) g3 (fun i σ S' H' => ∃ (z : Option V) (mm : Nat), σ = [some (.ref af), some x1, some x2, some (.int ((n + 1 + 1 : Nat) : Int)), some t, some (.ref d), z] ∧ Own md0 S H S' H' d (.dT (dEnc (lat w n U mm))) ∧ LInv w n U i mm) (fun S4 H4 e4 => ⟨z, 0, rfl, w3.step g3 e4, LInv.zero w n U⟩) ?_ ?_
    · rintro Sb i r σ2 S4 H4 x S5 H5 hi eb g5 e5 ⟨z, mm, rfl, w4, L⟩ e6 hx
      have w5 := w4.step g5 e6
      have hr : r ∈ rowsN w (n + 1) := List.mem_of_getElem? hi
      have e5S : Same S S5 := hss.trans (e2.st.trans (eb.trans e5))
      have ht := (DctT _).up (eb.trans e5) ht
      have hlk : lk (tb w (n + 1) U) r = some (U r) := lk_tb hr
      have key : (DctT (lat w n U mm)).ok (L2.upd S5 d (.dT (dEnc (lat w n U mm)))) (.ref d) := ⟨d, rfl, .inl upd_same⟩
      have ht' := (DctT _).up w5.puts ht
      have hx' := (D _).up w5.puts hx
      show tSeq (tIfS _ _ _) _ _ [some (.ref af), some x1, some x2, some (.int ((n + 1 + 1 : Nat) : Int)), some t, some (.ref d), some x] H5
      refine w5.peekT g5 (b := !decide ((lk (lat w n U mm) r.dropLast).getD (U r) = U r)) (et_val (ev_neN (ev_dget2T (ev_var key) (ev_cutLast (ev_var hx') ev_neg1) (ev_dget (ev_var ht') (ev_var hx') hlk)) (ev_dget (ev_var ht') (ev_var hx') hlk))) fun S6 H6 g6 e7 w6 => ?_
      have ht6 := (DctT _).up e7.st ht
      have hx6 := (D _).up e7.st hx
      have fin : ∀ mm', putK (dEnc (lat w n U mm)) (keyN r.dropLast) (.int (U r : Nat)) = dEnc (lat w n U mm') → LInv w n U (i + 1) mm' → ∀ S7 H7, Gr md0 S H S7 H7 → Same S6 S7 → Own md0 S H S7 H7 d (.dT (putK (dEnc (lat w n U mm)) (keyN r.dropLast) (.int (U r : Nat)))) →
          Nx md0 S H Sb (fun i σ S' H' => ∃ (z : Option V) (mm : Nat), σ = [some (.ref af), some x1, some x2, some (.int ((n + 1 + 1 : Nat) : Int)), some t, some (.ref d), z] ∧ Own md0 S H S' H' d (.dT (dEnc (lat w n U mm))) ∧ LInv w n U i mm) (i + 1) [some (.ref af), some x1, some x2, some (.int ((n + 1 + 1 : Nat) : Int)), some t, some (.ref d), some x] H7 := fun mm' he hL S7 H7 g7 e8 w7 =>
        ⟨S7, g7, e5.trans (e7.st.trans e8), some x, mm', rfl, by rw [he] at w7; exact w7, hL⟩
      have few : (dEnc (lat w n U mm)).length < 100000 := by
        have := lat_len w n U mm
        unfold dEnc
        rw [List.length_map]
        omega
      rcases Nat.lt_or_ge i (pre w n mm).length with hlt | hge
      · obtain ⟨p, h0, hp, hdl, hnext⟩ := L.old hi hlt
        obtain ⟨l1, l2⟩ := lat_old (T := U) h0 hp
        rw [hdl, l1]
        by_cases he : U (ext1 w p) = U r
        · have hb : (!decide ((some (U (ext1 w p))).getD (U r) = U r)) = false := by
            show (!decide (U (ext1 w p) = U r)) = false
            rw [decide_eq_true he]
            rfl
          rw [hb]
          refine iteF ?_
          refine s_dputO (ev_dget (ev_var ht6) (ev_var hx6) hlk) ha_var (ev_cutLast (ev_var hx6) ev_neg1) g6 w6 few fun S7 H7 g7 e8 w7 _ => fin mm ?_ (hnext he.symm) S7 H7 g7 e8 w7
          rw [hdl]
          exact put_dEnc_old (fun q hq e => by rw [l2 q hq e, he]) (by rw [l1]; exact fun z => by cases z)
        · have hb : (!decide ((some (U (ext1 w p))).getD (U r) = U r)) = true := by
            show (!decide (U (ext1 w p) = U r)) = true
            rw [decide_eq_false he]
            rfl
          rw [hb]
          refine iteT ?_
          have hdep := dep_no ok hr hdl (fun z => he z.symm)
          refine ret_rd g6 ((D _).up (e5S.trans e7.st) y1) ((D _).up (e5S.trans e7.st) y2) ht6 rfl rfl rfl rfl fun v' S' H' g' hv' => k v' S' H' g' ?_
          have el : lst w j U0 = (n + 1, U) := by
            rw [hl1]
            show (if dep w n U = true then _ else _) = _
            rw [hdep, if_neg Bool.false_ne_true]
          rw [el]
          exact hv'
      · obtain ⟨p, hp, hre, hdl, hL⟩ := L.new ok hi (Nat.le_antisymm L.le hge)
        obtain ⟨l1, l2⟩ := lat_new (T := U) hp
        rw [hdl, l1]
        have hb : (!decide ((none : Option Nat).getD (U r) = U r)) = false := by
          show (!decide (U r = U r)) = false
          rw [decide_eq_true rfl]
          rfl
        rw [hb]
        refine iteF ?_
        refine s_dputO (ev_dget (ev_var ht6) (ev_var hx6) hlk) ha_var (ev_cutLast (ev_var hx6) ev_neg1) g6 w6 few fun S7 H7 g7 e8 w7 _ => fin (mm + 1) ?_ hL S7 H7 g7 e8 w7
        rw [hdl, put_dEnc_new l1, l2, ← hre]
    · rintro σ2 S4 H4 g4 e4 ⟨z, mm, rfl, w4, L⟩
      obtain ⟨hmm, hdep⟩ := L.done ok
      subst hmm
      rw [lat_full] at w4
      refine s_frz w4 g4 trivial fun o H5 g5 e5 => ?_
      have hnew : (DctT (tb w n fun p => U (ext1 w p))).ok (L2.upd S4 d (.frz o (.dT (dEnc (tb w n fun p => U (ext1 w p)))))) (.ref d) := ⟨d, rfl, .inr ⟨o, upd_same⟩⟩
      refine ea2 (Ev.eq (e := nI (n + 1)) (ev_opI (g := fun i j => i - j) (ev_var (Dd.int _)) ev_int) (by show PyData.int _ = PyData.int _; congr 1; omega)) (ev_var hnew) _ _ _ (Same.refl _) g5.k fun vs S6 H6 g6 hvs => ?_
      obtain ⟨a1, a2, rfl, b1, b2⟩ := hvs.two
      obtain rfl := D_int b1
      refine ⟨_, _, rfl, n, Nat.lt_succ_self n, S6, g5.trans g6, _, a2, _, _, rfl, b2, hss.trans (e2.st.trans (e4.trans (e5.trans g6.st))), ?_, by omega⟩
      rw [hl1]
      show (if dep w n U = true then _ else _) = _
      rw [hdep, if_pos rfl]
  · have hm0 : m = 0 := by
      rcases Nat.eq_zero_or_pos m with h | h
      · exact h
      · simp [h] at hb
    subst hm0
    have hk := k
    rw [hl1] at hk
    exact ret_rd g2 ((D _).up (hss.trans e2.st) y1) ((D _).up (hss.trans e2.st) y2) ((DctT _).up e2.st ht) rfl rfl rfl rfl hk
end
end K49
end
section
set_option linter.all false
set_option maxRecDepth 100000
set_option maxHeartbeats 4000000
namespace K49
open PySem PySem.Spec PyProof.Rows L2 KR KD
/-- a room's begins, in order -/
def colS (w : W) (x : Nat) : List Nat := (col w x).mergeSort (fun a b => decide (a ≤ b))
theorem colS_perm (w : W) (x : Nat) : (colS w x).Perm (col w x) := List.mergeSort_perm _ _
theorem colS_le (w : W) (x : Nat) : (colS w x).Pairwise (· ≤ ·) := (List.pairwise_mergeSort (le := fun a b => decide (a ≤ b)) (fun a b c h1 h2 => by simp at *; omega) (fun a b => by simp; omega) (col w x)).imp fun h => by simpa using h
theorem sorted_nats {ns : List Nat} {ms : List Int} (hp : ms.Perm (ns.map fun n : Nat => (n : Int))) (hs : ms.Pairwise (· ≤ ·)) : ms = ((ns.mergeSort (fun a b => decide (a ≤ b))).map fun n : Nat => (n : Int)) := by
  refine List.Perm.eq_of_pairwise (le := fun a b : Int => a ≤ b) (fun a b _ _ h1 h2 => by omega) hs ?_ ?_
  · refine List.pairwise_map.mpr ?_
    have := (List.pairwise_mergeSort (le := fun a b : Nat => decide (a ≤ b)) (fun a b c h1 h2 => by simp at *; omega) (fun a b => by simp; omega) ns)
    exact this.imp fun h => by
      have : _ ≤ _ := of_decide_eq_true h
      omega
  · exact hp.trans ((List.mergeSort_perm ns _).symm.map _)
variable {md : Md} {S : Hp} {K : PySem.W.Frag} {σ : L2.St} {te : TE}
theorem ev_sortN {ns : List Nat} (h : Ev md S te σ (D (lI ns))) : Ev md S (tCB (rSortedI K) (tCons te tNil)) σ (D (lI (ns.mergeSort fun a b => decide (a ≤ b)))) := ev_cb (ea1 h) fun S1 vs e hv H R b k => by
  obtain ⟨v, rfl, hw⟩ := hv.one
  rw [lI_ints] at hw
  obtain ⟨a, xs, rfl, e1, e2⟩ := D_lst.1 hw
  have := ints_of (KD.All.toD e2)
  subst this
  refine ⟨a, _, rfl, SqL.of (b.le _ _ e1), fun ns' p hp hs hn => ?_⟩
  rw [sorted_nats hp hs]
  refine k _ _ _ (b.new hn) ?_
  rw [lI_ints]
  exact Dd.lst upd_same (DdAll.ints _)
/-- two rooms that may become one -/
structure FoldP (w : W) (one other : Nat) : Prop where
  lt : one < other
  rng : other < w.1
  cols : colS w one = colS w other
theorem FoldP.ok {w : W} {one other : Nat} (h : FoldP w one other) (ok : WOk w) : FoldOk w one other := ⟨ok, h.lt, h.rng, fun r => by
  rw [thr_len, thr_len]
  have p1 := (colS_perm w one).symm.trans ((h.cols ▸ colS_perm w other))
  exact (p1.count_eq r).symm⟩
def FoldsT (w : W) : KD.Ty := ⟨fun S v => ∃ ps : List (Nat × Nat), (∀ p ∈ ps, FoldP w p.1 p.2) ∧ ps.length ≤ 2500 ∧ (D (psD ps)).ok S v, fun e ⟨ps, a, b, c⟩ => ⟨ps, a, b, (D _).up e c⟩⟩
def sp_z_column : Sp := spP (α := W × Nat) (fun a => a.1.2.length ≤ 1000) (fun a => [D (wD a.1), D (nI a.2)]) (fun a => D (lI (colS a.1 a.2)))
def sp_z_folds : Sp := spP (α := W) (fun w => Wb w) (fun w => [D (wD w)]) (fun w => FoldsT w)
section
variable {P : Program} {w : World} {K : PySem.W.Frag} {mg : Str → Option Value} {base : Heap}
abbrev t_z_column : Stmt := top 47
theorem sc_z_column : FnScope ["_law_w", "_law_room", "_law_arrow"] ["_law_w", "_law_room"] (defScope t_z_column) := ⟨rfl, rfl, rfl, by decide +kernel, rfl, by decide +kernel, by decide +kernel⟩
theorem ok_z_column {f : Addr} {fd : FuncData} (F : Fun K "_law_column" "_law_column" t_z_column f fd) (T : Txt mg)
    (C_z_ins : Df P w K mg base "_law_ins" 1 ["_law_w", "_law_room"] sp_z_ins)
    : FnOk P w K mg base CX0 2 f fd ["_law_w", "_law_room"] sp_z_column := by
  obtain ⟨f_z_ins, fd_z_ins, G_z_ins, m_z_ins, k_z_ins, b_z_ins⟩ := C_z_ins.ex
  refine F.ok sc_z_column (fun vs H Q E h => by obtain ⟨_, _, _, _, hv, _⟩ := h; exact hv.len) (fun cdv A outer s H vs Q E hr h => ?_)
  obtain ⟨S, ⟨w, r⟩, hd, hS, hv, k⟩ := h
  dsimp only at hd hv k
  have g0 : Gr md0 S H S H := Gr.refl (ok0 hS)
  obtain ⟨v1, v2, rfl, h1, h2⟩ := hv.two
  refine ⟨_, (pss_one (ps_ret (pe_callB (cr_sortedK K) (by rfl) T.sorted (by decide +kernel) (pa_cons (pe_lc (own := [("_law_arrow", 2)]) (by rfl) sc_z_column.nd (pi_listK K (pe_call G_z_ins (hr.mono (by decide)) (by rfl) m_z_ins k_z_ins b_z_ins .nil pass0 (pa_cons (pv 0) (pa_cons (pv 1) pa_nil)))) (blkOk_by (own := [("_law_arrow", 2)]) (N := ["_law_w", "_law_room", "_law_arrow"]) (sc := defScope t_z_column) (by decide +kernel)) (fun _ _ _ _ _ => (pg_name (i := 2) sc_z_column.nd rfl (.inl rfl))) (fun _ _ _ _ _ => pts_nil) (fun _ _ _ _ _ => (pe_ix (ix_tupK K) (pe_ix (ix_tupK K) (pe_ix (ix_tupK K) (pv 0) pe_int (fun _ _ => rfl)) (pv 2) (fun _ _ => rfl)) pe_int (fun _ _ => rfl)))) pa_nil)))), ?_⟩
  have il := ins_le w r
  refine s_ret (ev_sortN (ns := col w r) (Ev.eq (xl_YD (xs := ins w r) (fun a => nI (be w a)) (ex_listD (ev_call (w, r) hd (ea2 (ev_var h1) (ev_var h2)))) (by omega) ?_) (lI_map _ _).symm)) g0 k
  rintro a S1 x e ha hx
  exact ⟨_, eg_name, rfl, ev_be (ev_var ((D _).up e h1)) (ev_var hx) (mem_ins.mp ha).1⟩
abbrev t_z_folds : Stmt := top 48
theorem sc_z_folds : FnScope ["_law_w", "_law_found", "_law_one", "_law_other"] ["_law_w"] (defScope t_z_folds) := ⟨rfl, rfl, rfl, by decide +kernel, rfl, by decide +kernel, by decide +kernel⟩
theorem ok_z_folds {f : Addr} {fd : FuncData} (F : Fun K "_law_folds" "_law_folds" t_z_folds f fd) (T : Txt mg)
    (C_z_column : Df P w K mg base "_law_column" 2 ["_law_w", "_law_room"] sp_z_column)
    : FnOk P w K mg base CX0 3 f fd ["_law_w"] sp_z_folds := by
  obtain ⟨f_z_column, fd_z_column, G_z_column, m_z_column, k_z_column, b_z_column⟩ := C_z_column.ex
  refine F.ok sc_z_folds (fun vs H Q E h => by obtain ⟨_, _, _, _, hv, _⟩ := h; exact hv.len) (fun cdv A outer s H vs Q E hr h => ?_)
  obtain ⟨S, a, hd, hS, hv, k⟩ := h
  have g0 : Gr md0 S H S H := Gr.refl (ok0 hS)
  obtain ⟨v1, rfl, h1⟩ := hv.one
  refine ⟨_, (pss_cons (ps_set (i := 1) sc_z_folds.nd rfl (.inl rfl) (pe_lst pa_nil))
    (pss_cons (ps_for PassesOwn.never rfl (pi_range1 (by rfl) T.range (pa_cons (pe_ix (ix_tupK K) (pv 0) pe_int (fun _ _ => rfl)) pa_nil)) (pg_name (i := 2) sc_z_folds.nd rfl (.inr rfl))
      (pss_one (ps_set (i := 1) sc_z_folds.nd rfl (.inl rfl) (pe_op op_cat (pv 1) (pe_lc (own := [("_law_other", 3)]) (by rfl) sc_z_folds.nd (pi_range2 (by rfl) T.range (pa_cons (pe_op op_add (pv 2) pe_int) (pa_cons (pe_ix (ix_tupK K) (pv 0) pe_int (fun _ _ => rfl)) pa_nil))) (blkOk_by (own := [("_law_other", 3)]) (N := ["_law_w", "_law_found", "_law_one", "_law_other"]) (sc := defScope t_z_folds) (by decide +kernel)) (fun _ _ _ _ _ => (pg_name (i := 3) sc_z_folds.nd rfl (.inl rfl))) (fun _ _ _ _ _ => (pts_one (pt_cmpR (op_eqDK K hr.units) (pe_call G_z_column (hr.mono (by decide)) (by rfl) m_z_column k_z_column b_z_column .nil pass0 (pa_cons (pv 0) (pa_cons (pv 2) pa_nil))) (pe_call G_z_column (hr.mono (by decide)) (by rfl) m_z_column k_z_column b_z_column .nil pass0 (pa_cons (pv 0) (pa_cons (pv 3) pa_nil))) (nomark _)))) (fun _ _ _ _ _ => (pe_tup (pa_cons (pv 2) (pa_cons (pv 3) pa_nil)))))))))
    (pss_one (ps_ret (pv 1))))), ?_⟩
  have few := hd.few
  have le := hd.le
  refine q_asg (P := D (psD [])) (ev_lstD (ds := []) ea_nil) g0 fun v2 S1 H1 g1 e1 h2 => ?_
  have h1 := (D _).up e1.st h1
  refine q_for (xs := List.range a.1) (ex_rng1 (ev_w0 (ev_var h1)) (by omega)) g1 (fun i σ S' _ => ∃ (u : V) (z : Option V) (ps : List (Nat × Nat)), σ = [some v1, some u, z, none] ∧ (D (psD ps)).ok S' u ∧ (∀ p ∈ ps, FoldP a p.1 p.2) ∧ ps.length ≤ i * 50) (fun S2 H2 e2 => ⟨v2, none, [], rfl, (D _).up e2.st h2, fun p hp => (by cases hp), Nat.zero_le _⟩) ?_ ?_
  · rintro Sb i one σ1 S2 H2 x S3 H3 hi eb g3 e3 ⟨u, z, ps, rfl, hu, hps, hl⟩ e4 rfl
    obtain ⟨rfl, hlt⟩ : one = i ∧ i < a.1 := by
      have := List.getElem?_eq_some_iff.mp hi
      exact ⟨by simpa using this.2.symm, by simpa using this.1⟩
    have h1 := (D _).up (eb.trans e3) h1
    have hu := (D _).up e4.st hu
    show tAsg _ (gName 1) _ [some v1, some u, some (.int (one : Nat)), none] _
    refine s_asg (P := D (psD (ps ++ ((List.range' (one + 1) (a.1 - (one + 1))).filter fun o => decide (colS a one = colS a o)).map fun o => (one, o)))) (Ev.conv (ev_cat (ts := ps.map fun q => D (pD q)) (us := (((List.range' (one + 1) (a.1 - (one + 1))).filter fun o => decide (colS a one = colS a o)).map fun o => (one, o)).map fun q => D (pD q)) (Ev.conv (ev_var hu) fun S v hv => ?_) (Ev.conv (Ev.Dlst (xl_D (xs := List.range' (one + 1) (a.1 - (one + 1))) (fun o => decide (colS a one = colS a o)) (fun o => pD (one, o)) (ex_rng2 (l := one + 1) (Ev.eq (ev_opI (g := fun i j => i + j) (ev_var (Dd.int _)) ev_int) (by show PyData.int _ = PyData.int _; congr 1)) (ev_w0 (ev_var h1)) (by omega) (by omega)) (by rw [List.length_range']; omega) ?_)) fun S v hv => ?_) ?_) fun S v hv => ?_) g3 fun v5 S5 H5 g5 e5 h5 => ⟨S5, g5, e3.trans e5.st, v5, _, _, rfl, h5, ?_, ?_⟩
    · have q := D_lst.1 hv
      rw [List.map_map] at q
      exact q
    · rintro o S6 x e6 ho rfl
      have h1 := (D _).up e6 h1
      refine ⟨_, eg_name, rfl, et_val (Ev.eq (ev_eqD (ev_call (a, one) (Nat.le_trans le (by decide)) (ea2 (ev_var h1) (ev_var (Dd.int _)))) (ev_call (a, o) (Nat.le_trans le (by decide)) (ea2 (ev_var h1) (ev_var (Dd.int _)))) (shp_lI _).shaped (shp_lI _).shaped) (by rw [eqv_lI])), fun _ => ev_tupD (ds := [nI one, nI o]) (ea2 (ev_var (Dd.int _)) (ev_var (Dd.int _)))⟩
    · rw [List.map_map] at hv ⊢
      exact hv
    · rw [List.length_map, List.length_map, List.length_map]
      have := List.length_filter_le (fun o => decide (colS a one = colS a o)) (List.range' (one + 1) (a.1 - (one + 1)))
      rw [List.length_range'] at this
      have : one * 50 ≤ 50 * 50 := Nat.mul_le_mul_right _ (by omega)
      omega
    · rw [← List.map_append] at hv
      refine D_lst.2 ?_
      rw [List.map_map]
      exact hv
    · intro p hp
      rcases List.mem_append.mp hp with hp | hp
      · exact hps p hp
      · obtain ⟨o, ho, rfl⟩ := List.mem_map.mp hp
        obtain ⟨h1, h2⟩ := List.mem_filter.mp ho
        have := List.mem_range'_1.mp h1
        exact ⟨by show one < o; omega, by show o < a.1; omega, by simpa using h2⟩
    · rw [List.length_append, List.length_map]
      have := List.length_filter_le (fun o => decide (colS a one = colS a o)) (List.range' (one + 1) (a.1 - (one + 1)))
      rw [List.length_range'] at this
      rw [Nat.succ_mul]
      omega
  · rintro σ1 S2 H2 g2 e2 ⟨u, z, ps, rfl, hu, hps, hl⟩
    rw [List.length_range] at hl
    have hl2 : ps.length ≤ 2500 := Nat.le_trans hl (Nat.mul_le_mul_right 50 few)
    exact s_ret (P := FoldsT a) (ev_var (show (FoldsT a).ok S2 u from ⟨ps, hps, hl2, hu⟩)) g2 k
end
end K49
end
section
set_option linter.all false
set_option maxRecDepth 100000
set_option maxHeartbeats 4000000
namespace K49
open PySem PySem.Spec PyProof.Rows L2 KR KD
section
variable {md : Md} {S H S' H' S1 H1 S0 H0 : Hp} {K : PySem.W.Frag} {σ : L2.St} {ta tb' te td tx : TE}
/-- a pair of a row and a number -/
def prT (p : List Nat × Nat) : KD.Ty := TupT [D (tI p.1), D (nI p.2)]
theorem ents_all : ∀ {kvs : List (List Nat × Nat)} {vs : List V}, KD.All S vs (kvs.map prT) → ∃ es : List Ent, vs = es.map (fun e => V.ref e.p) ∧ (∀ e ∈ es, S e.p = some (.tup [.ref e.q, e.v]) ∧ S e.q = some (.tup (e.k.map kV))) ∧ es.map (fun e => (e.k, e.v)) = dEnc kvs
  | [], _, h => by
    cases h
    exact ⟨[], rfl, (fun e he => by cases he), rfl⟩
  | p :: kvs, _, h => by
    cases h with
    | @cons v vs _ _ h1 h2 =>
      obtain ⟨es, rfl, q1, q2⟩ := ents_all h2
      obtain ⟨a, xs, rfl, b1, b2⟩ := h1
      obtain ⟨x, y, rfl, c1, c2⟩ := b2.two
      obtain ⟨q, rfl, d1⟩ := row_key c1
      obtain rfl := D_int c2
      refine ⟨⟨a, q, keyN p.1, .int (p.2 : Nat)⟩ :: es, rfl, fun e he => ?_, ?_⟩
      · rcases List.mem_cons.mp he with rfl | he
        · exact ⟨b1, d1⟩
        · exact q1 e he
      · rw [List.map_cons, q2]
        rfl
theorem keyN_nodup : ∀ {rs : List (List Nat)}, rs.Nodup → (rs.map keyN).Nodup := fun h => List.pairwise_map.mpr (h.imp fun a b => a (keyN_inj b))
/-- dict(pairs), locked at once -/
theorem ev_dictFrz {kvs : List (List Nat × Nat)} (h : Ev md S te σ (LstT (kvs.map prT))) (nd : (kvs.map (·.1)).Nodup) : Ev md S (tFrz (tCB rDictT (tCons te tNil))) σ (DctT kvs) := fun S1 H R e o k => by
    refine ea1 h S1 H (fun vs H1 => rDictT vs H1 fun v H1 => ∃ d u, v = .ref d ∧ H1 d = some u ∧ Mut (some u) ∧ ∀ o, R v (L2.upd H1 d (.frz o u))) e o fun vs S2 H2 g2 hv => ?_
    obtain ⟨v, rfl, hw⟩ := hv.one
    obtain ⟨a, xs, rfl, b1, b2⟩ := hw
    obtain ⟨es, rfl, q1, q2⟩ := ents_all b2
    refine ⟨a, es, rfl, g2.k.le _ _ b1, fun e he => ⟨g2.k.le _ _ (q1 e he).1, g2.k.le _ _ (q1 e he).2⟩, ?_, fun p hp => ⟨p, _, rfl, upd_same, trivial, fun o => ?_⟩⟩
    · have : es.map (·.k) = (kvs.map (·.1)).map keyN := by
        have e := congrArg (List.map (·.1)) q2
        unfold dEnc at e
        rw [List.map_map, List.map_map] at e
        rw [List.map_map]
        exact e
      rw [this]
      exact keyN_nodup nd
    · rw [q2]
      have eu : L2.upd (L2.upd H2 p (.dT (dEnc kvs))) p (.frz o (.dT (dEnc kvs))) = L2.upd H2 p (.frz o (.dT (dEnc kvs))) := by
        funext b
        by_cases c : b = p
        · rw [c, upd_same, upd_same]
        · rw [upd_ne c, upd_ne c, upd_ne c]
      rw [eu]
      exact k _ _ _ (g2.trans (g2.k.new hp)) ⟨p, rfl, .inr ⟨o, upd_same⟩⟩
theorem cut_mid {α : Type} (xs : List α) {l h : Nat} (hl : l ≤ xs.length) (hh : h ≤ xs.length) : (xs.drop (HT.sIx xs.length 0 (some (l : Int)))).take (HT.sIx xs.length xs.length (some (h : Int)) - HT.sIx xs.length 0 (some (l : Int))) = (xs.drop l).take (h - l) := by
  rw [HT.sIx_nat, HT.sIx_nat, Nat.min_eq_left hl, Nat.min_eq_left hh]
theorem ev_cutMid {r : List Nat} {l h : Nat} (h1 : Ev md S te σ (D (tI r))) (h2 : Ev md S ta σ (D (nI l))) (h3 : Ev md S tb' σ (D (nI h))) (hl : l ≤ r.length) (hh : h ≤ r.length) : Ev md S (tSl (rSlA K) te (tPart ta) (tPart tb')) σ (D (tI ((r.drop l).take (h - l)))) := by
  have q := ev_slA (K := K) h1.Dtup (eo_some h2) (eo_some h3)
  rw [tI_cut, cut_mid r hl hh] at q
  exact Ev.tupD q
end
/-- tb by arrows -/
def byK (arr : List Nat) : List (List Nat × Nat) := (List.range arr.length).map fun i => ([i], arr.getD i 0)
theorem byK_tb {w : W} {arr : List Nat} (h : arr.length = w.2.length) : tb w 0 (byA arr) = byK arr := by
  unfold tb byK rowsN
  rw [List.map_map, h]
  rfl
theorem byK_nodup (arr : List Nat) : ((byK arr).map (·.1)).Nodup := by
  unfold byK
  rw [List.map_map]
  exact List.pairwise_map.mpr (List.nodup_range.imp fun a b => a (by cases b; rfl))
def sp_z_table_made : Sp := spP (α := W × Nat × Tb × List Nat) (fun a => IsRow a.1 a.2.2.2 ∧ a.2.1 < a.2.2.2.length ∧ a.2.2.2.length ≤ 1000) (fun a => [DctT (tb a.1 a.2.1 a.2.2.1), D (nI (a.2.1 + 1)), D (tI a.2.2.2)]) (fun a => D (lI (mkr a.2.2.1 a.2.1 a.2.2.2)))
def sp_z_same_reader : Sp := spP (α := W) (fun w => w.2.length ≤ 1000) (fun w => [D (wD w)]) (fun w => RdT w w 0 (byA (List.range w.2.length)))
def sp_z_by_arrows : Sp := spP (α := W × W × List Nat) (fun a => a.2.2.length = a.1.2.length ∧ a.1.2.length ≤ 1000) (fun a => [D (wD a.1), D (wD a.2.1), D (lI a.2.2)]) (fun a => RdT a.1 a.2.1 0 (byA a.2.2))
def sp_z_wider : Sp := spP (α := W × W × Nat × Tb) (fun a => Wb a.1 ∧ a.2.2.1 ≤ 98 ∧ many a.1 (a.2.2.1 + 2) ≤ 1000) (fun a => [RdT a.1 a.2.1 a.2.2.1 a.2.2.2]) (fun a => RdT a.1 a.2.1 (a.2.2.1 + 1) (wid a.2.2.2))
section
variable {P : Program} {w : World} {K : PySem.W.Frag} {mg : Str → Option Value} {base : Heap}
abbrev t_z_table_made : Stmt := top 56
theorem sc_z_table_made : FnScope ["_law_table", "_law_wide", "_law_row", "_law_at"] ["_law_table", "_law_wide", "_law_row"] (defScope t_z_table_made) := ⟨rfl, rfl, rfl, by decide +kernel, rfl, by decide +kernel, by decide +kernel⟩
theorem ok_z_table_made {f : Addr} {fd : FuncData} (F : Fun K "_law_table_made" "_law_table_made" t_z_table_made f fd) (T : Txt mg)
    : FnOk P w K mg base CX0 1 f fd ["_law_table", "_law_wide", "_law_row"] sp_z_table_made := by
  refine F.ok sc_z_table_made (fun vs H Q E h => by obtain ⟨_, _, _, _, hv, _⟩ := h; exact hv.len) (fun cdv A outer s H vs Q E hr h => ?_)
  obtain ⟨S, ⟨w, j, T', r⟩, hd, hS, hv, k⟩ := h
  dsimp only at hd hv k
  have g0 : Gr md0 S H S H := Gr.refl (ok0 hS)
  obtain ⟨v1, v2, v3, rfl, h1, h2, h3⟩ := hv.three
  refine ⟨_, (pss_one (ps_ret (pe_lc (own := [("_law_at", 3)]) (by rfl) sc_z_table_made.nd (pi_range1 (by rfl) T.range (pa_cons (pe_op op_add (pe_op op_sub (pe_callB (call_lenK K) (by rfl) T.len PySem.boot_len (pa_cons (pv 2) pa_nil)) (pv 1)) pe_int) pa_nil)) (blkOk_by (own := [("_law_at", 3)]) (N := ["_law_table", "_law_wide", "_law_row", "_law_at"]) (sc := defScope t_z_table_made) (by decide +kernel)) (fun _ _ _ _ _ => (pg_name (i := 3) sc_z_table_made.nd rfl (.inl rfl))) (fun _ _ _ _ _ => pts_nil) (fun _ _ _ _ _ => (pe_dget (hu_of hr) (pv 0) (pe_callTy (call_tupleK K) (by rfl) T.tuple (by decide +kernel) (pa_cons (pe_slice (sl_tupAK K) (pv 2) (po_some (pv 3)) (po_some (pe_op op_add (pv 3) (pv 1)))) pa_nil)) (fun _ _ => rfl)))))), ?_⟩
  obtain ⟨hr1, hj, hl⟩ := hd
  have lr : (mkr T' j r) = (List.range (r.length - j)).map fun i => T' ((r.drop i).take (j + 1)) := rfl
  refine s_ret (Ev.eq (xl_YD (xs := List.range (r.length - j)) (fun i => nI (T' ((r.drop i).take (j + 1)))) (ex_rng1 (Ev.eq (ev_opI (g := fun i j => i + j) (ev_opI (g := fun i j => i - j) (ev_lenDT (ev_var h3)) (ev_var h2)) ev_int) (by show PyData.int _ = PyData.int _; congr 1; rw [List.length_map]; omega)) (by omega)) (by rw [List.length_range]; omega) ?_) (by rw [lr, lI_map])) g0 k
  rintro i S1 x e hi rfl
  have hi := List.mem_range.mp hi
  have h1 := (DctT _).up e h1
  have h2 := (D _).up e h2
  have h3 := (D _).up e h3
  refine ⟨_, eg_name, rfl, ev_dget (ev_var h1) (Ev.conv (ev_tupleT (Ev.Dtup (Ev.eq (ev_cutMid (l := i) (h := i + (j + 1)) (ev_var h3) (ev_var (Dd.int _)) (Ev.eq (ev_opI (g := fun i j => i + j) (ev_var (Dd.int _)) (ev_var h2)) (by show PyData.int _ = PyData.int _; congr 1)) (by omega) (by omega)) (by rw [Nat.add_sub_cancel_left]; rfl)))) fun _ _ => D_tup.2) (lk_tb (cut_mem hr1 hi))⟩
abbrev t_z_same_reader : Stmt := top 58
theorem sc_z_same_reader : FnScope ["_law_w", "_law_arrow"] ["_law_w"] (defScope t_z_same_reader) := ⟨rfl, rfl, rfl, by decide +kernel, rfl, by decide +kernel, by decide +kernel⟩
theorem ok_z_same_reader {f : Addr} {fd : FuncData} (F : Fun K "_law_same_reader" "_law_same_reader" t_z_same_reader f fd) (T : Txt mg)
    : FnOk P w K mg base CX0 1 f fd ["_law_w"] sp_z_same_reader := by
  refine F.ok sc_z_same_reader (fun vs H Q E h => by obtain ⟨_, _, _, _, hv, _⟩ := h; exact hv.len) (fun cdv A outer s H vs Q E hr h => ?_)
  obtain ⟨S, w, hd, hS, hv, k⟩ := h
  dsimp only at hd hv k
  have g0 : Gr md0 S H S H := Gr.refl (ok0 hS)
  obtain ⟨v1, rfl, h1⟩ := hv.one
  refine ⟨_, (pss_one (ps_ret (pe_tup (pa_cons (pv 0) (pa_cons (pv 0) (pa_cons pe_int (pa_cons (pe_frz (pe_callTy (call_dictT rfl hr.units) (by rfl) T.dict (by decide +kernel) (pa_cons (pe_lc (own := [("_law_arrow", 1)]) (by rfl) sc_z_same_reader.nd (pi_range1 (by rfl) T.range (pa_cons (pe_callB (call_lenK K) (by rfl) T.len PySem.boot_len (pa_cons (pe_ix (ix_tupK K) (pv 0) pe_int (fun _ _ => rfl)) pa_nil)) pa_nil)) (blkOk_by (own := [("_law_arrow", 1)]) (N := ["_law_w", "_law_arrow"]) (sc := defScope t_z_same_reader) (by decide +kernel)) (fun _ _ _ _ _ => (pg_name (i := 1) sc_z_same_reader.nd rfl (.inl rfl))) (fun _ _ _ _ _ => pts_nil) (fun _ _ _ _ _ => (pe_tup (pa_cons (pe_tup (pa_cons (pv 1) pa_nil)) (pa_cons (pv 1) pa_nil))))) pa_nil))) pa_nil))))))), ?_⟩
  refine s_ret (ev_tup (ts := [D (wD w), D (wD w), D (nI 1), DctT (tb w 0 (byA (List.range w.2.length)))]) (ea_cons (ev_var h1) (ea3 (ev_var h1) ev_int ?_))) g0 k
  rw [byK_tb (by rw [List.length_range])]
  refine ev_dictFrz (Ev.conv (xl_Y (xs := List.range w.2.length) (fun i => prT ([i], i)) (ex_rng1 (Ev.eq (ev_lenDT (ev_w1 (ev_var h1))) (by rw [List.length_map])) (by omega)) (by rw [List.length_range]; omega) ?_) fun S v hv => ?_) (byK_nodup _)
  · rintro i S1 x e hi rfl
    exact ⟨_, eg_name, rfl, ev_tup (ts := [D (tI [i]), D (nI i)]) (ea2 (ev_tupD (ds := [nI i]) (ea1 (ev_var (Dd.int _)))) (ev_var (Dd.int _)))⟩
  · have : (byK (List.range w.2.length)).map prT = (List.range w.2.length).map fun i => prT ([i], i) := by
      unfold byK
      rw [List.map_map, List.length_range]
      refine List.map_congr_left fun i hi => ?_
      show prT ([i], (List.range w.2.length).getD i 0) = _
      rw [List.getD_eq_getElem?_getD, List.getElem?_range (List.mem_range.mp hi)]
      rfl
    rw [this]
    exact hv
abbrev t_z_by_arrows : Stmt := top 59
theorem sc_z_by_arrows : FnScope ["_law_w", "_law_v", "_law_arrows", "_law_at", "_law_arrow"] ["_law_w", "_law_v", "_law_arrows"] (defScope t_z_by_arrows) := ⟨rfl, rfl, rfl, by decide +kernel, rfl, by decide +kernel, by decide +kernel⟩
theorem ok_z_by_arrows {f : Addr} {fd : FuncData} (F : Fun K "_law_by_arrows" "_law_by_arrows" t_z_by_arrows f fd) (T : Txt mg)
    : FnOk P w K mg base CX0 1 f fd ["_law_w", "_law_v", "_law_arrows"] sp_z_by_arrows := by
  refine F.ok sc_z_by_arrows (fun vs H Q E h => by obtain ⟨_, _, _, _, hv, _⟩ := h; exact hv.len) (fun cdv A outer s H vs Q E hr h => ?_)
  obtain ⟨S, ⟨w, v, arr⟩, hd, hS, hv, k⟩ := h
  dsimp only at hd hv k
  have g0 : Gr md0 S H S H := Gr.refl (ok0 hS)
  obtain ⟨v1, v2, v3, rfl, h1, h2, h3⟩ := hv.three
  refine ⟨_, (pss_one (ps_ret (pe_tup (pa_cons (pv 0) (pa_cons (pv 1) (pa_cons pe_int (pa_cons (pe_frz (pe_callTy (call_dictT rfl hr.units) (by rfl) T.dict (by decide +kernel) (pa_cons (pe_lc (own := [("_law_at", 3), ("_law_arrow", 4)]) (by rfl) sc_z_by_arrows.nd (pi_enumK K (by rfl) T.enumerate (pa_cons (pv 2) pa_nil)) (blkOk_by (own := [("_law_at", 3), ("_law_arrow", 4)]) (N := ["_law_w", "_law_v", "_law_arrows", "_law_at", "_law_arrow"]) (sc := defScope t_z_by_arrows) (by decide +kernel)) (fun _ _ _ _ _ => (pg_tupK K (n := 2) rfl (pgs_cons (pg_name (i := 3) sc_z_by_arrows.nd rfl (.inl rfl)) (pgs_cons (pg_name (i := 4) sc_z_by_arrows.nd rfl (.inl rfl)) pgs_nil)))) (fun _ _ _ _ _ => pts_nil) (fun _ _ _ _ _ => (pe_tup (pa_cons (pe_tup (pa_cons (pv 3) pa_nil)) (pa_cons (pv 4) pa_nil))))) pa_nil))) pa_nil))))))), ?_⟩
  obtain ⟨d1, d2⟩ := hd
  refine s_ret (ev_tup (ts := [D (wD w), D (wD v), D (nI 1), DctT (tb w 0 (byA arr))]) (ea_cons (ev_var h1) (ea3 (ev_var h2) ev_int ?_))) g0 k
  rw [byK_tb d1]
  refine ev_dictFrz (Ev.conv (xl_Y (xs := List.range arr.length) (fun i => prT ([i], arr.getD i 0)) (ex_enumLD (xs := arr) (enc := nI) (ev_var h3)) (by rw [List.length_range]; omega) ?_) fun S v hv => ?_) (byK_nodup _)
  · rintro i S1 x e hi ⟨p, u, b, rfl, hp, hb, hu⟩
    obtain rfl := D_int hu
    have eb : arr.getD i 0 = b := by rw [List.getD_eq_getElem?_getD, hb]; rfl
    refine ⟨_, eg_pair hp, rfl, ?_⟩
    rw [eb]
    exact ev_tup (ts := [D (tI [i]), D (nI b)]) (ea2 (ev_tupD (ds := [nI i]) (ea1 (ev_var (Dd.int _)))) (ev_var (Dd.int _)))
  · unfold byK
    rw [List.map_map]
    exact hv
end
end K49
end
section
set_option linter.all false
set_option maxRecDepth 100000
set_option maxHeartbeats 4000000
namespace K49
open PySem PySem.Spec PyProof.Rows L2 KR KD
/-- the first i rows, told -/
def fil (rs : List (List Nat)) (f : Tb) (i : Nat) : List (List Nat × Nat) := (rs.take i).map fun r => (r, f r)
theorem fil_full (w : W) (j : Nat) (f : Tb) : fil (rowsN w j) f (rowsN w j).length = tb w j f := by
  unfold fil tb
  rw [List.take_length]
theorem fil_put {rs : List (List Nat)} {f : Tb} {i : Nat} {r : List Nat} (nd : rs.Nodup) (h : rs[i]? = some r) : putK (dEnc (fil rs f i)) (keyN r) (.int (f r : Nat)) = dEnc (fil rs f (i + 1)) := by
  have hn : lk (fil rs f i) r = none := by
    refine lk_not (T := f) fun hm => ?_
    obtain ⟨m, hi, e⟩ := List.getElem_of_mem hm
    rw [List.length_take] at hi
    rw [List.getElem_take] at e
    have h1 : rs[m]? = some r := by rw [← e]; exact List.getElem?_eq_getElem (by omega)
    obtain ⟨a1, b1⟩ := List.getElem?_eq_some_iff.mp h1
    obtain ⟨a2, b2⟩ := List.getElem?_eq_some_iff.mp h
    have := (List.getElem_inj nd).mp (b1.trans b2.symm)
    omega
  rw [put_dEnc_new hn]
  unfold fil
  rw [List.take_add_one, h, List.map_append]
  rfl
theorem fil_len (rs : List (List Nat)) (f : Tb) (i : Nat) : (dEnc (fil rs f i)).length ≤ rs.length := by
  unfold dEnc fil
  rw [List.length_map, List.length_map, List.length_take]
  omega
theorem drop_last_mem {w : W} {j : Nat} {r : List Nat} (h : r ∈ rowsN w (j + 1)) : r.dropLast ∈ rowsN w j := by
  rw [dropLast_take (mem_rowsN.mp h).1]
  exact rowsN_take h
/-- two readers, one behind the other -/
structure JnA where
  w : W
  v : W
  u : W
  j1 : Nat
  j2 : Nat
  T1 : Tb
  T2 : Tb
structure JnA.Ok (a : JnA) : Prop where
  bw : Wb a.w
  bv : Wb a.v
  r1 : Rd a.w a.v a.j1 a.T1
  r2 : Rd a.v a.u a.j2 a.T2
  m1 : many a.w (a.j1 + a.j2 + 1) ≤ 1000
  m2 : many a.v (a.j2 + 1) ≤ 1000
  le : a.j1 + a.j2 ≤ 50
def JnA.ja (a : JnA) : Nat := (lst a.w a.j1 a.T1).1
def JnA.jb (a : JnA) : Nat := (lst a.v a.j2 a.T2).1
def JnA.ta (a : JnA) : Tb := (lst a.w a.j1 a.T1).2
def JnA.tb (a : JnA) : Tb := (lst a.v a.j2 a.T2).2
def JnA.out (a : JnA) : Nat × Tb := lst a.w (a.ja + a.jb) (jn a.ta a.ja a.tb)
def sp_z_join : Sp := spP (α := JnA) (fun a => a.Ok) (fun a => [RdT a.w a.v a.j1 a.T1, RdT a.v a.u a.j2 a.T2]) (fun a => RdT a.w a.u a.out.1 a.out.2)
section
variable {P : Program} {w : World} {K : PySem.W.Frag} {mg : Str → Option Value} {base : Heap}
abbrev t_z_wider : Stmt := top 70
theorem sc_z_wider : FnScope ["_law_f", "_law_w", "_law_v", "_law_wide", "_law_table", "_law_later", "_law_row"] ["_law_f"] (defScope t_z_wider) := ⟨rfl, rfl, rfl, by decide +kernel, rfl, by decide +kernel, by decide +kernel⟩
theorem ok_z_wider {f : Addr} {fd : FuncData} (F : Fun K "_law_wider" "_law_wider" t_z_wider f fd) (T : Txt mg)
    (C_z_rows : Df P w K mg base "_law_rows" 3 ["_law_w", "_law_length"] sp_z_rows)
    : FnOk P w K mg base CX0 4 f fd ["_law_f"] sp_z_wider := by
  obtain ⟨f_z_rows, fd_z_rows, G_z_rows, m_z_rows, k_z_rows, b_z_rows⟩ := C_z_rows.ex
  refine F.ok sc_z_wider (fun vs H Q E h => by obtain ⟨_, _, _, _, hv, _⟩ := h; exact hv.len) (fun cdv A outer s H vs Q E hr h => ?_)
  obtain ⟨S, ⟨w, v, j, U⟩, hd, hS, hv, k⟩ := h
  dsimp only at hd hv k
  have g0 : Gr md0 S H S H := Gr.refl (ok0 hS)
  obtain ⟨ok, hj, hm⟩ := hd
  obtain ⟨vf, rfl, hf⟩ := hv.one
  refine ⟨_, (pss_cons (ps_asg (pv 0) (pg_tupK K (n := 4) rfl (pgs_cons (pg_name (i := 1) sc_z_wider.nd rfl (.inl rfl)) (pgs_cons (pg_name (i := 2) sc_z_wider.nd rfl (.inl rfl)) (pgs_cons (pg_name (i := 3) sc_z_wider.nd rfl (.inl rfl)) (pgs_cons (pg_name (i := 4) sc_z_wider.nd rfl (.inl rfl)) pgs_nil))))))
    (pss_cons (ps_set (i := 5) sc_z_wider.nd rfl (.inl rfl) pe_dnewT)
    (pss_cons (ps_for PassesOwn.never rfl (pi_listK K (pe_call G_z_rows (hr.mono (by decide)) (by rfl) m_z_rows k_z_rows b_z_rows .nil pass0 (pa_cons (pv 1) (pa_cons (pe_op op_add (pv 3) pe_int) pa_nil)))) (pg_name (i := 6) sc_z_wider.nd rfl (.inl rfl))
      (pss_one (ps_dput (hu_of hr) (pv 5) (pv 6) (pe_dget (hu_of hr) (pv 4) (pe_slice (sl_tupAK K) (pv 6) po_none (po_some (pe_un un_neg pe_int))) (fun _ _ => rfl)) rfl)))
    (pss_one (ps_frz (ps_ret (pe_tup (pa_cons (pv 1) (pa_cons (pv 2) (pa_cons (pe_op op_add (pv 3) pe_int) (pa_cons (pv 5) pa_nil))))))))))), ?_⟩
  obtain ⟨af, vs, rfl, f1, f2⟩ := id hf
  obtain ⟨x1, x2, x3, x4, rfl, y1, y2, y3, y4⟩ := f2.four
  obtain rfl := D_int y3
  refine ⟨_, rfl, af, _, rfl, SqT.of (hS _ _ f1), rfl, _, _, rfl, _, _, rfl, _, _, rfl, _, _, rfl, rfl, ?_⟩
  dsimp only
  show tSeq (tAsg _ _) _ _ [some (.ref af), some x1, some x2, some (.int ((j + 1 : Nat) : Int)), some x4, none, none] H
  have few : (rowsN w (j + 1)).length ≤ 1000 := by rw [rowsN_len ok.toWOk]; exact hm
  refine q_newT g0 fun d H1 g1 e1 w1 => ?_
  refine q_for (ex_listD (xs := rowsN w (j + 1)) (enc := tI) (ev_call (w, j + 1) ⟨ok, by show j + 1 ≤ 100; omega, hm⟩ (ea2 (ev_var y1) (Ev.eq (ev_opI (g := fun i j => i + j) (ev_var y3) ev_int) (by show PyData.int _ = PyData.int _; congr 1))))) g1 (fun i σ S' H' => ∃ (z : Option V), σ = [some (.ref af), some x1, some x2, some (.int ((j + 1 : Nat) : Int)), some x4, some (.ref d), z] ∧ Own md0 S H S' H' d (.dT (dEnc (fil (rowsN w (j + 1)) (wid U) i)))) (fun S4 H4 e4 => ⟨none, rfl, w1.step g1 e4⟩) ?_ ?_
  · rintro Sb i r σ2 S4 H4 x S5 H5 hi eb g5 e5 ⟨z, rfl, w4⟩ e6 hx
    have w5 := w4.step g5 e6
    have hr : r ∈ rowsN w (j + 1) := List.mem_of_getElem? hi
    have h4 := (DctT _).up (eb.trans e5) y4
    show sDPut _ _ _ _ [some (.ref af), some x1, some x2, some (.int ((j + 1 : Nat) : Int)), some x4, some (.ref d), some x] H5
    refine s_dputO (r := r) (a := wid U r) (ev_dget (ev_var h4) (ev_cutLast (ev_var hx) ev_neg1) (lk_tb (drop_last_mem hr))) ha_var (ev_var hx) g5 w5 (Nat.lt_of_le_of_lt (Nat.le_trans (fil_len _ _ _) few) (by decide)) fun S7 H7 g7 e8 w7 _ => ⟨S7, g7, e5.trans e8, some x, rfl, ?_⟩
    rw [fil_put (rowsN_nodup w (j + 1)) hi] at w7
    exact w7
  · rintro σ2 S4 H4 g4 e4 ⟨z, rfl, w4⟩
    rw [fil_full] at w4
    refine s_frz w4 g4 trivial fun o H5 g5 e5 => ?_
    have hnew : (DctT (tb w (j + 1) (wid U))).ok (L2.upd S4 d (.frz o (.dT (dEnc (tb w (j + 1) (wid U)))))) (.ref d) := ⟨d, rfl, .inr ⟨o, upd_same⟩⟩
    refine s_ret (ev_tup (ts := [D (wD w), D (wD v), D (nI (j + 1 + 1)), DctT (tb w (j + 1) (wid U))]) (ea_cons (ev_var ((D _).up (e4.trans e5) y1)) (ea3 (ev_var ((D _).up (e4.trans e5) y2)) (Ev.eq (ev_opI (g := fun i j => i + j) (ev_var (Dd.int _)) ev_int) (by show PyData.int _ = PyData.int _; congr 1)) (ev_var hnew)))) g5 k
abbrev t_z_join : Stmt := top 60
theorem sc_z_join : FnScope ["_law_f", "_law_g", "_law_one", "_law_other", "_law_wide", "_law_table", "_law_row"] ["_law_f", "_law_g"] (defScope t_z_join) := ⟨rfl, rfl, rfl, by decide +kernel, rfl, by decide +kernel, by decide +kernel⟩
theorem ok_z_join {f : Addr} {fd : FuncData} (F : Fun K "_law_join" "_law_join" t_z_join f fd) (T : Txt mg)
    (C_z_least : Df P w K mg base "_law_least" 1 ["_law_f"] sp_z_least)
    (C_z_rows : Df P w K mg base "_law_rows" 3 ["_law_w", "_law_length"] sp_z_rows)
    (C_z_table_made : Df P w K mg base "_law_table_made" 1 ["_law_table", "_law_wide", "_law_row"] sp_z_table_made)
    : FnOk P w K mg base CX0 4 f fd ["_law_f", "_law_g"] sp_z_join := by
  obtain ⟨f_z_least, fd_z_least, G_z_least, m_z_least, k_z_least, b_z_least⟩ := C_z_least.ex
  obtain ⟨f_z_rows, fd_z_rows, G_z_rows, m_z_rows, k_z_rows, b_z_rows⟩ := C_z_rows.ex
  obtain ⟨f_z_table_made, fd_z_table_made, G_z_table_made, m_z_table_made, k_z_table_made, b_z_table_made⟩ := C_z_table_made.ex
  refine F.ok sc_z_join (fun vs H Q E h => by obtain ⟨_, _, _, _, hv, _⟩ := h; exact hv.len) (fun cdv A outer s H vs Q E hr h => ?_)
  obtain ⟨S, a, hd, hS, hv, k⟩ := h
  have g0 : Gr md0 S H S H := Gr.refl (ok0 hS)
  obtain ⟨bw, bv, r1, r2, m1, m2, hle⟩ := hd
  obtain ⟨v1, v2, rfl, h1, h2⟩ := hv.two
  refine ⟨_, (pss_cons (ps_par (i := 2) (j := 3) (by rfl) sc_z_join.nd rfl rfl (by decide) rfl rfl (pa_cons (pe_call G_z_least (hr.mono (by decide)) (by rfl) m_z_least k_z_least b_z_least .nil pass0 (pa_cons (pv 0) pa_nil)) (pa_cons (pe_call G_z_least (hr.mono (by decide)) (by rfl) m_z_least k_z_least b_z_least .nil pass0 (pa_cons (pv 1) pa_nil)) pa_nil)) (by rfl))
    (pss_cons (ps_set (i := 4) sc_z_join.nd rfl (.inl rfl) (pe_op op_sub (pe_op op_add (pe_ix (ix_tupK K) (pv 2) pe_int (fun _ _ => rfl)) (pe_ix (ix_tupK K) (pv 3) pe_int (fun _ _ => rfl))) pe_int))
    (pss_cons (ps_set (i := 5) sc_z_join.nd rfl (.inl rfl) pe_dnewT)
    (pss_cons (ps_for PassesOwn.never rfl (pi_listK K (pe_call G_z_rows (hr.mono (by decide)) (by rfl) m_z_rows k_z_rows b_z_rows .nil pass0 (pa_cons (pe_ix (ix_tupK K) (pv 2) pe_int (fun _ _ => rfl)) (pa_cons (pv 4) pa_nil)))) (pg_name (i := 6) sc_z_join.nd rfl (.inl rfl))
      (pss_one (ps_dput (hu_of hr) (pv 5) (pv 6) (pe_dget (hu_of hr) (pe_ix (ix_tupK K) (pv 3) pe_int (fun _ _ => rfl)) (pe_callTy (call_tupleK K) (by rfl) T.tuple (by decide +kernel) (pa_cons (pe_call G_z_table_made (hr.mono (by decide)) (by rfl) m_z_table_made k_z_table_made b_z_table_made .nil pass0 (pa_cons (pe_ix (ix_tupK K) (pv 2) pe_int (fun _ _ => rfl)) (pa_cons (pe_ix (ix_tupK K) (pv 2) pe_int (fun _ _ => rfl)) (pa_cons (pv 6) pa_nil)))) pa_nil)) (fun _ _ => rfl)) rfl)))
    (pss_one (ps_frz (ps_ret (pe_call G_z_least (hr.mono (by decide)) (by rfl) m_z_least k_z_least b_z_least .nil pass0 (pa_cons (pe_tup (pa_cons (pe_ix (ix_tupK K) (pv 2) pe_int (fun _ _ => rfl)) (pa_cons (pe_ix (ix_tupK K) (pv 3) pe_int (fun _ _ => rfl)) (pa_cons (pv 4) (pa_cons (pv 5) pa_nil))))) pa_nil))))))))), ?_⟩
  have la : a.ja ≤ a.j1 := lst_le _ _ _
  have lb : a.jb ≤ a.j2 := lst_le _ _ _
  have wid0 : many a.w (a.ja + a.jb + 1) ≤ 1000 := Nat.le_trans (many_mono bw.toWOk (by omega)) m1
  have few : (rowsN a.w (a.ja + a.jb)).length ≤ 1000 := by rw [rowsN_len bw.toWOk]; exact wid0
  have k1 : many a.w (a.j1 + 1) ≤ 1000 := Nat.le_trans (many_mono bw.toWOk (by omega)) m1
  refine q_par (P := RdT a.w a.v a.ja a.ta) (P1 := RdT a.v a.u a.jb a.tb) (ea2 (ev_call (a.w, a.v, a.j1, a.T1) ⟨bw.toWOk, by show (rowsN a.w a.j1).length ≤ 1000; rw [rowsN_len bw.toWOk]; exact k1, k1⟩ (ea1 (ev_var h1))) (ev_call (a.v, a.u, a.j2, a.T2) ⟨bv.toWOk, by show (rowsN a.v a.j2).length ≤ 1000; rw [rowsN_len bv.toWOk]; exact m2, m2⟩ (ea1 (ev_var h2)))) g0 fun y1 y2 S1 H1 g1 e1 z1 z2 => ?_
  refine q_asg (P := D (nI (a.ja + a.jb + 1))) (Ev.eq (ev_opI (g := fun i j => i - j) (ev_opI (g := fun i j => i + j) (ev_ixT (P := D (nI (a.ja + 1))) (ev_var z1) ev_int rfl rfl) (ev_ixT (P := D (nI (a.jb + 1))) (ev_var z2) ev_int rfl rfl)) ev_int) (by show PyData.int _ = PyData.int _; congr 1; omega)) g1 fun y3 S2 H2 g2 e2 z3 => ?_
  have z1 := (RdT _ _ _ _).up e2.st z1
  have z2 := (RdT _ _ _ _).up e2.st z2
  refine q_newT g2 fun d H3 g3 e3 w3 => ?_
  refine q_for (ex_listD (xs := rowsN a.w (a.ja + a.jb)) (enc := tI) (ev_call (a.w, a.ja + a.jb) ⟨bw, by show a.ja + a.jb ≤ 100; omega, wid0⟩ (ea2 (ev_ixT (P := D (wD a.w)) (ev_var z1) ev_int rfl rfl) (ev_var z3)))) g3 (fun i σ S' H' => ∃ (z : Option V), σ = [some v1, some v2, some y1, some y2, some y3, some (.ref d), z] ∧ Own md0 S H S' H' d (.dT (dEnc (fil (rowsN a.w (a.ja + a.jb)) (jn a.ta a.ja a.tb) i)))) (fun S4 H4 e4 => ⟨none, rfl, w3.step g3 e4⟩) ?_ ?_
  · rintro Sb i r σ2 S4 H4 x S5 H5 hi eb g5 e5 ⟨z, rfl, w4⟩ e6 hx
    have w5 := w4.step g5 e6
    have hr : r ∈ rowsN a.w (a.ja + a.jb) := List.mem_of_getElem? hi
    obtain ⟨rl, ri⟩ := mem_rowsN.mp hr
    have z1 := (RdT _ _ _ _).up (eb.trans e5) z1
    have z2 := (RdT _ _ _ _).up (eb.trans e5) z2
    show sDPut _ _ _ _ [some v1, some v2, some y1, some y2, some y3, some (.ref d), some x] H5
    have hmm : mkr a.ta a.ja r ∈ rowsN a.v a.jb := mkr_mem (r1.least bw.toWOk) hr
    refine s_dputO (r := r) (a := jn a.ta a.ja a.tb r) (ev_dget (r := mkr a.ta a.ja r) (ev_ixT (P := DctT (tb a.v a.jb a.tb)) (ev_var z2) ev_int rfl rfl) (Ev.conv (ev_tupleL (Ev.Dlst (ev_call (a.w, a.ja, a.ta, r) ⟨ri, by show a.ja < r.length; omega, by show r.length ≤ 1000; omega⟩ (ea3 (ev_ixT (P := DctT (tb a.w a.ja a.ta)) (ev_var z1) ev_int rfl rfl) (ev_ixT (P := D (nI (a.ja + 1))) (ev_var z1) ev_int rfl rfl) (ev_var hx))))) fun _ _ => D_tup.2) (lk_tb hmm)) ha_var (ev_var hx) g5 w5 (Nat.lt_of_le_of_lt (Nat.le_trans (fil_len _ _ _) few) (by decide)) fun S7 H7 g7 e8 w7 _ => ⟨S7, g7, e5.trans e8, some x, rfl, ?_⟩
    rw [fil_put (rowsN_nodup _ _) hi] at w7
    exact w7
  · rintro σ2 S4 H4 g4 e4 ⟨z, rfl, w4⟩
    rw [fil_full] at w4
    refine s_frz w4 g4 trivial fun o H5 g5 e5 => ?_
    have hnew : (DctT (tb a.w (a.ja + a.jb) (jn a.ta a.ja a.tb))).ok (L2.upd S4 d (.frz o (.dT (dEnc (tb a.w (a.ja + a.jb) (jn a.ta a.ja a.tb)))))) (.ref d) := ⟨d, rfl, .inr ⟨o, upd_same⟩⟩
    have z1 := (RdT _ _ _ _).up (e4.trans e5) z1
    have z2 := (RdT _ _ _ _).up (e4.trans e5) z2
    refine s_ret (ev_call (a.w, a.u, a.ja + a.jb, jn a.ta a.ja a.tb) ⟨bw.toWOk, few, wid0⟩ (ea1 (ev_tup (ts := [D (wD a.w), D (wD a.u), D (nI (a.ja + a.jb + 1)), DctT (tb a.w (a.ja + a.jb) (jn a.ta a.ja a.tb))]) (ea_cons (ev_ixT (P := D (wD a.w)) (ev_var z1) ev_int rfl rfl) (ea3 (ev_ixT (P := D (wD a.u)) (ev_var z2) ev_int rfl rfl) (ev_var ((D _).up (e4.trans e5) z3)) (ev_var hnew)))))) g5 k
end
end K49
end
section
set_option linter.all false
set_option maxRecDepth 100000
set_option maxHeartbeats 4000000
namespace K49
open PySem PySem.Spec PyProof.Rows L2 KR KD
theorem put_iEnc_new {kvs : List (Nat × Nat)} {r a : Nat} (h : lk kvs r = none) : putK (iEnc kvs) (Sum.inl (r : Int)) (.int (a : Nat)) = iEnc (kvs ++ [(r, a)]) := by
  rw [putK_new _ (by rw [val_iEnc, h]; rfl)]
  unfold iEnc
  rw [List.map_append]
  rfl
theorem lk_none {α : Type} [DecidableEq α] : ∀ {kvs : List (α × Nat)} {k : α}, (∀ p ∈ kvs, p.1 ≠ k) → lk kvs k = none
  | [], _, _ => rfl
  | p :: kvs, k, h => by
    rw [lk_cons, if_neg (h p List.mem_cons_self)]
    exact lk_none fun q hq => h q (List.mem_cons_of_mem _ hq)
def rmL (one other n : Nat) : List Nat := List.range other ++ [one] ++ List.range' other (n - 1 - other)
theorem rmL_at {one other n x : Nat} (h : other < n) (hx : x < n) : (rmL one other n)[x]? = some (rm one other x) := by
  unfold rmL rm
  rcases Nat.lt_trichotomy x other with c | c | c
  · rw [if_pos c, List.append_assoc, List.getElem?_append_left (by rw [List.length_range]; exact c), List.getElem?_range c]
  · subst c
    rw [if_neg (Nat.lt_irrefl _), if_pos rfl, List.append_assoc, List.getElem?_append_right (by rw [List.length_range]; exact Nat.le_refl _), List.length_range, Nat.sub_self]
    rfl
  · rw [if_neg (by omega), if_neg (by omega), List.getElem?_append_right (by rw [List.length_append, List.length_range]; exact c), List.length_append, List.length_range, List.getElem?_range' (by show x - (other + 1) < _; omega)]
    congr 1
    show other + 1 * (x - (other + 1)) = x - 1
    omega
/-- two rooms' arrows from a room, and what is put into the twins on the way -/
theorem tw_new {w : W} {one other i k a b : Nat} (ha : (thr w i other)[k]? = some a) (hb : (thr w i one)[k]? = some b) :
    lk (twL w one other i ++ ((thr w i other).zip (thr w i one)).take k) a = none ∧ ((thr w i other).zip (thr w i one)).take (k + 1) = ((thr w i other).zip (thr w i one)).take k ++ [(a, b)] := by
  constructor
  · refine lk_none fun p hp e => ?_
    have m1 := (mem_thr.mp (List.mem_of_getElem? ha))
    rcases List.mem_append.mp hp with hp | hp
    · obtain ⟨r, hr, q1, q2⟩ := mem_twL hp
      have := (mem_thr.mp q1).2.1
      rw [e, m1.2.1] at this
      omega
    · obtain ⟨m, hm, e2⟩ := List.getElem_of_mem hp
      rw [List.length_take] at hm
      rw [List.getElem_take, List.getElem_zip] at e2
      have nd := thr_nodup w i other
      obtain ⟨a2, b2⟩ := List.getElem?_eq_some_iff.mp ha
      rw [← e2] at e
      have := (List.getElem_inj nd).mp (e.trans b2.symm)
      omega
  · have e : ((thr w i other).zip (thr w i one))[k]? = some (a, b) := List.getElem?_zip_eq_some.mpr ⟨ha, hb⟩
    rw [List.take_add_one, e]
    rfl
theorem twL_few (w : W) (one other i : Nat) (h : Wb w) (hi : i ≤ w.1) : (twL w one other i).length ≤ 5000 := by
  have h1 := h.few
  have h2 := h.le
  have : ∀ n, (twL w one other n).length ≤ n * 100 := fun n => by
    induction n with
    | zero => exact Nat.zero_le _
    | succ n ih =>
      rw [twL_succ, List.length_append, List.length_zip]
      have : (thr w n other).length ≤ 100 := Nat.le_trans (List.length_filter_le _ _) (Nat.le_trans (outs_le w n) h2)
      omega
  have := this i
  omega
def sp_z_fold : Sp := spP (α := W × Nat × Nat) (fun a => Wb a.1 ∧ FoldP a.1 a.2.1 a.2.2) (fun a => [D (wD a.1), D (nI a.2.1), D (nI a.2.2)])
  (fun a => TupT [D (wD (foldW a.1 a.2.1 a.2.2)), D (lI (kept a.1 a.2.1 a.2.2)), D (lI (foldN a.1 a.2.1 a.2.2)), DciT (twL a.1 a.2.1 a.2.2 a.1.1)])
section
variable {P : Program} {w : World} {K : PySem.W.Frag} {mg : Str → Option Value} {base : Heap}
abbrev t_z_fold : Stmt := top 49
theorem sc_z_fold : FnScope ["_law_w", "_law_one", "_law_other", "_law_twin", "_law_room", "_law_here", "_law_there", "_law_k", "_law_kept_z", "_law_rooms", "_law_pairs", "_law_numbers", "_law_arrow"] ["_law_w", "_law_one", "_law_other"] (defScope t_z_fold) := ⟨rfl, rfl, rfl, by decide +kernel, rfl, by decide +kernel, by decide +kernel⟩
theorem ok_z_fold {f : Addr} {fd : FuncData} (F : Fun K "_law_fold" "_law_fold" t_z_fold f fd) (T : Txt mg)
    (C_z_outs : Df P w K mg base "_law_outs" 1 ["_law_w", "_law_room"] sp_z_outs)
    : FnOk P w K mg base CX0 2 f fd ["_law_w", "_law_one", "_law_other"] sp_z_fold := by
  obtain ⟨f_z_outs, fd_z_outs, G_z_outs, m_z_outs, k_z_outs, b_z_outs⟩ := C_z_outs.ex
  refine F.ok sc_z_fold (fun vs H Q E h => by obtain ⟨_, _, _, _, hv, _⟩ := h; exact hv.len) (fun cdv A outer s H vs Q E hr h => ?_)
  obtain ⟨S, ⟨w, one, other⟩, hd, hS, hv, k⟩ := h
  dsimp only at hd hv k
  have g0 : Gr md0 S H S H := Gr.refl (ok0 hS)
  obtain ⟨wb, fp⟩ := hd
  obtain ⟨v1, v2, v3, rfl, h1, h2, h3⟩ := hv.three
  refine ⟨_, (pss_cons (ps_set (i := 3) sc_z_fold.nd rfl (.inr rfl) pe_dnewK)
    (pss_cons (ps_for PassesOwn.never rfl (pi_range1 (by rfl) T.range (pa_cons (pe_ix (ix_tupK K) (pv 0) pe_int (fun _ _ => rfl)) pa_nil)) (pg_name (i := 4) sc_z_fold.nd rfl (.inl rfl))
      (pss_cons (ps_setLc (i := 5) (own := [("_law_arrow", 12)]) (by rfl) sc_z_fold.nd rfl rfl (sw_true rfl rfl rfl (by decide +kernel)) (pi_listK K (pe_call G_z_outs (hr.mono (by decide)) (by rfl) m_z_outs k_z_outs b_z_outs .nil pass0 (pa_cons (pv 0) (pa_cons (pv 4) pa_nil)))) (blkOk_by (own := [("_law_arrow", 12)]) (N := ["_law_w", "_law_one", "_law_other", "_law_twin", "_law_room", "_law_here", "_law_there", "_law_k", "_law_kept_z", "_law_rooms", "_law_pairs", "_law_numbers", "_law_arrow"]) (sc := defScope t_z_fold) (by decide +kernel)) (fun _ _ _ _ _ => (pg_name (i := 12) sc_z_fold.nd rfl (.inl rfl))) (fun _ _ _ _ _ => (pts_one (pt_cmpR op_eq (pe_ix (ix_tupK K) (pe_ix (ix_tupK K) (pe_ix (ix_tupK K) (pv 0) pe_int (fun _ _ => rfl)) (pv 12) (fun _ _ => rfl)) pe_int (fun _ _ => rfl)) (pv 1) (nomark _)))) (fun _ _ _ _ _ => (pv 12)))
      (pss_cons (ps_setLc (i := 6) (own := [("_law_arrow", 12)]) (by rfl) sc_z_fold.nd rfl rfl (sw_true rfl rfl rfl (by decide +kernel)) (pi_listK K (pe_call G_z_outs (hr.mono (by decide)) (by rfl) m_z_outs k_z_outs b_z_outs .nil pass0 (pa_cons (pv 0) (pa_cons (pv 4) pa_nil)))) (blkOk_by (own := [("_law_arrow", 12)]) (N := ["_law_w", "_law_one", "_law_other", "_law_twin", "_law_room", "_law_here", "_law_there", "_law_k", "_law_kept_z", "_law_rooms", "_law_pairs", "_law_numbers", "_law_arrow"]) (sc := defScope t_z_fold) (by decide +kernel)) (fun _ _ _ _ _ => (pg_name (i := 12) sc_z_fold.nd rfl (.inl rfl))) (fun _ _ _ _ _ => (pts_one (pt_cmpR op_eq (pe_ix (ix_tupK K) (pe_ix (ix_tupK K) (pe_ix (ix_tupK K) (pv 0) pe_int (fun _ _ => rfl)) (pv 12) (fun _ _ => rfl)) pe_int (fun _ _ => rfl)) (pv 2) (nomark _)))) (fun _ _ _ _ _ => (pv 12)))
      (pss_one (ps_for PassesOwn.never rfl (pi_range1 (by rfl) T.range (pa_cons (pe_callB (call_lenK K) (by rfl) T.len PySem.boot_len (pa_cons (pv 6) pa_nil)) pa_nil)) (pg_name (i := 7) sc_z_fold.nd rfl (.inl rfl))
        (pss_one (ps_dput (hu_of hr) (pv 3) (pe_ix (ix_listK K) (pv 6) (pv 7) (fun _ _ => rfl)) (pe_ix (ix_listK K) (pv 5) (pv 7) (fun _ _ => rfl)) rfl)))))))
    (pss_cons (ps_frz (ps_set (i := 8) sc_z_fold.nd rfl (.inr rfl) (pe_lc (own := [("_law_arrow", 12)]) (by rfl) sc_z_fold.nd (pi_range1 (by rfl) T.range (pa_cons (pe_callB (call_lenK K) (by rfl) T.len PySem.boot_len (pa_cons (pe_ix (ix_tupK K) (pv 0) pe_int (fun _ _ => rfl)) pa_nil)) pa_nil)) (blkOk_by (own := [("_law_arrow", 12)]) (N := ["_law_w", "_law_one", "_law_other", "_law_twin", "_law_room", "_law_here", "_law_there", "_law_k", "_law_kept_z", "_law_rooms", "_law_pairs", "_law_numbers", "_law_arrow"]) (sc := defScope t_z_fold) (by decide +kernel)) (fun _ _ _ _ _ => (pg_name (i := 12) sc_z_fold.nd rfl (.inl rfl))) (fun _ _ _ _ _ => (pts_one (pt_cmp (pc_dnotin (hu_of hr) (pv 12) (pv 3))))) (fun _ _ _ _ _ => (pv 12)))))
    (pss_cons (ps_set (i := 9) sc_z_fold.nd rfl (.inr rfl) (pe_op op_cat (pe_op op_cat (pe_listRg rfl (by rfl) T.list (prg_1 (by rfl) T.range (pv 2))) (pe_lst (pa_cons (pv 1) pa_nil))) (pe_listRg rfl (by rfl) T.list (prg_2 (by rfl) T.range (pv 2) (pe_op op_sub (pe_ix (ix_tupK K) (pv 0) pe_int (fun _ _ => rfl)) pe_int)))))
    (pss_cons (ps_setLc (i := 10) (own := [("_law_arrow", 12)]) (by rfl) sc_z_fold.nd rfl rfl (sw_true rfl rfl rfl (by decide +kernel)) (pi_listK K (pv 8)) (blkOk_by (own := [("_law_arrow", 12)]) (N := ["_law_w", "_law_one", "_law_other", "_law_twin", "_law_room", "_law_here", "_law_there", "_law_k", "_law_kept_z", "_law_rooms", "_law_pairs", "_law_numbers", "_law_arrow"]) (sc := defScope t_z_fold) (by decide +kernel)) (fun _ _ _ _ _ => (pg_name (i := 12) sc_z_fold.nd rfl (.inl rfl))) (fun _ _ _ _ _ => pts_nil) (fun _ _ _ _ _ => (pe_tup (pa_cons (pe_ix (ix_listK K) (pv 9) (pe_ix (ix_tupK K) (pe_ix (ix_tupK K) (pe_ix (ix_tupK K) (pv 0) pe_int (fun _ _ => rfl)) (pv 12) (fun _ _ => rfl)) pe_int (fun _ _ => rfl)) (fun _ _ => rfl)) (pa_cons (pe_ix (ix_listK K) (pv 9) (pe_ix (ix_tupK K) (pe_ix (ix_tupK K) (pe_ix (ix_tupK K) (pv 0) pe_int (fun _ _ => rfl)) (pv 12) (fun _ _ => rfl)) pe_int (fun _ _ => rfl)) (fun _ _ => rfl)) pa_nil)))))
    (pss_cons (ps_setLc (i := 11) (own := [("_law_arrow", 12)]) (by rfl) sc_z_fold.nd rfl rfl (sw_true rfl rfl rfl (by decide +kernel)) (pi_range1 (by rfl) T.range (pa_cons (pe_callB (call_lenK K) (by rfl) T.len PySem.boot_len (pa_cons (pe_ix (ix_tupK K) (pv 0) pe_int (fun _ _ => rfl)) pa_nil)) pa_nil)) (blkOk_by (own := [("_law_arrow", 12)]) (N := ["_law_w", "_law_one", "_law_other", "_law_twin", "_law_room", "_law_here", "_law_there", "_law_k", "_law_kept_z", "_law_rooms", "_law_pairs", "_law_numbers", "_law_arrow"]) (sc := defScope t_z_fold) (by decide +kernel)) (fun _ _ _ _ _ => (pg_name (i := 12) sc_z_fold.nd rfl (.inl rfl))) (fun _ _ _ _ _ => pts_nil) (fun _ _ _ _ _ => (pe_bmK K PySem.F.plainAttrs_list PySem.F.slot_list_index PySem.F.type_list_index (mt_indexK K) (pv 8) (pa_cons (pe_dget2 (hu_of hr) (pv 3) (pv 12) (pv 12) ⟨rfl, rfl, rfl, rfl⟩) pa_nil))))
    (pss_one (ps_ret (pe_tup (pa_cons (pe_tup (pa_cons (pe_op op_sub (pe_ix (ix_tupK K) (pv 0) pe_int (fun _ _ => rfl)) pe_int) (pa_cons (pe_callTy (call_tupleK K) (by rfl) T.tuple (by decide +kernel) (pa_cons (pv 10) pa_nil)) pa_nil))) (pa_cons (pv 8) (pa_cons (pv 11) (pa_cons (pv 3) pa_nil))))))))))))), ?_⟩
  have l1 := wb.few
  have l2 := wb.le
  have fo := fp.ok wb.toWOk
  have hlt : one < other := fp.lt
  have hrg : other < w.1 := fp.rng
  obtain rfl := D_int h2
  obtain rfl := D_int h3
  refine q_newK g0 fun d H1 g1 e1 w1 => ?_
  refine q_for (xs := List.range w.1) (ex_rng1 (ev_w0 (ev_var h1)) (by omega)) g1 (fun i σ S' H' => ∃ (y z u t : Option V), σ = [some v1, some (.int (one : Nat)), some (.int (other : Nat)), some (.ref d), y, z, u, t, none, none, none, none, none] ∧ Own md0 S H S' H' d (.dK (iEnc (twL w one other i)))) (fun S2 H2 e2 => ⟨none, none, none, none, rfl, w1.step g1 e2⟩) ?_ ?_
  · rintro Sb i r σ1 S2 H2 x S3 H3 hi eb g3 e3 ⟨y, z, u, t, rfl, w2⟩ e4 rfl
    obtain ⟨rfl, hir⟩ : r = i ∧ i < w.1 := by
      have := List.getElem?_eq_some_iff.mp hi
      exact ⟨by simpa using this.2.symm, by simpa using this.1⟩
    have w3 := w2.step g3 e4
    have h1 := (D _).up (eb.trans e3) h1
    have lo := outs_le w r
    have lt1 : (thr w r one).length ≤ 100 := Nat.le_trans (List.length_filter_le _ _) (Nat.le_trans lo l2)
    have lt2 : (thr w r other).length ≤ 100 := Nat.le_trans (List.length_filter_le _ _) (Nat.le_trans lo l2)
    have cols : (thr w r other).length = (thr w r one).length := fo.cols r
    show tSeq (tAsg _ _) _ _ [some v1, some (.int (one : Nat)), some (.int (other : Nat)), some (.ref d), some (.int (r : Nat)), z, u, t, none, none, none, none, none] _
    refine q_asg (P := D (lI (thr w r one))) (Ev.eq (xl_D (xs := outs w r) (fun a => decide (en w a = one)) nI (ex_listD (ev_call (w, r) (by show w.2.length ≤ 1000; omega) (ea2 (ev_var h1) (ev_var (Dd.int _))))) (by omega) ?_) rfl) g3 fun v5 S5 H5 g5 e5 h5 => ?_
    · rintro a S6 x e6 ha hx
      have h1 := (D _).up e6 h1
      obtain rfl := D_int hx
      exact ⟨_, eg_name, rfl, et_val (ev_eqN (ev_en (ev_var h1) (ev_var (Dd.int _)) (mem_outs.mp ha).1) (ev_var (Dd.int _))), fun _ => ev_var (Dd.int _)⟩
    have h1 := (D _).up e5.st h1
    refine q_asg (P := D (lI (thr w r other))) (Ev.eq (xl_D (xs := outs w r) (fun a => decide (en w a = other)) nI (ex_listD (ev_call (w, r) (by show w.2.length ≤ 1000; omega) (ea2 (ev_var h1) (ev_var (Dd.int _))))) (by omega) ?_) rfl) g5 fun v6 S6 H6 g6 e6 h6 => ?_
    · rintro a S6 x e6 ha hx
      have h1 := (D _).up e6 h1
      obtain rfl := D_int hx
      exact ⟨_, eg_name, rfl, et_val (ev_eqN (ev_en (ev_var h1) (ev_var (Dd.int _)) (mem_outs.mp ha).1) (ev_var (Dd.int _))), fun _ => ev_var (Dd.int _)⟩
    have h5 := (D _).up e6.st h5
    have w6 := w3.step g3 (e5.trans e6)
    refine x_for (xs := List.range (thr w r other).length) (ex_rng1 (Ev.eq (ev_lenDL (ev_var h6)) (by rw [List.length_map])) (by omega)) g6 (fun j σ S' H' => ∃ (t : Option V), σ = [some v1, some (.int (one : Nat)), some (.int (other : Nat)), some (.ref d), some (.int (r : Nat)), some v5, some v6, t, none, none, none, none, none] ∧ Own md0 S H S' H' d (.dK (iEnc (twL w one other r ++ ((thr w r other).zip (thr w r one)).take j)))) (fun S7 H7 e7 => ⟨t, rfl, by
      rw [List.take_zero, List.append_nil]
      exact w6.step g6 e7⟩) ?_ ?_
    · rintro Sc j kk σ2 S7 H7 x S8 H8 hj ec g8 e8 ⟨t, rfl, w7⟩ e9 rfl
      obtain ⟨rfl, hjr⟩ : kk = j ∧ j < (thr w r other).length := by
        have := List.getElem?_eq_some_iff.mp hj
        exact ⟨by simpa using this.2.symm, by simpa using this.1⟩
      have w8 := w7.step g8 e9
      have h5 := (D _).up (ec.trans e8) h5
      have h6 := (D _).up (ec.trans e8) h6
      have ga := List.getElem?_eq_getElem hjr
      have gb := List.getElem?_eq_getElem (cols ▸ hjr : kk < (thr w r one).length)
      obtain ⟨n1, n2⟩ := tw_new ga gb
      show sDPut _ _ _ _ [some v1, some (.int (one : Nat)), some (.int (other : Nat)), some (.ref d), some (.int (r : Nat)), some v5, some v6, some (.int (kk : Nat)), none, none, none, none, none] _
      refine s_dputI (ev_ixLN (enc := nI) (ev_var h5) (ev_var (Dd.int _)) gb) ha_var (ev_ixLN (enc := nI) (ev_var h6) (ev_var (Dd.int _)) ga) g8 w8 ?_ fun S9 H9 g9 e10 w9 => ⟨S9, g9, e8.trans e10, _, rfl, ?_⟩
      · unfold iEnc
        rw [List.length_map, List.length_append, List.length_take, List.length_zip]
        have := twL_few w one other r wb (by omega)
        omega
      · rw [put_iEnc_new n1, List.append_assoc, ← n2] at w9
        exact w9
    · rintro σ2 S7 H7 g7 e7 ⟨t, rfl, w7⟩
      refine ⟨S7, g7, e3.trans (e5.st.trans (e6.st.trans e7)), _, _, _, _, rfl, ?_⟩
      rw [twL_succ]
      rw [List.length_range, List.take_of_length_le (by rw [List.length_zip]; omega)] at w7
      exact w7
  · rintro σ1 S2 H2 g2 e2 ⟨y, z, u, t, rfl, w2⟩
    rw [List.length_range] at w2
    refine q_frz w2 g2 trivial fun o H3 g3 e3 => ?_
    have hT : (DciT (twL w one other w.1)).ok (L2.upd S2 d (.frz o (.dK (iEnc (twL w one other w.1))))) (.ref d) := ⟨d, rfl, .inr ⟨o, upd_same⟩⟩
    generalize L2.upd S2 d (.frz o (.dK (iEnc (twL w one other w.1)))) = S3 at g3 e3 hT
    have h1 := (D _).up (e2.trans e3) h1
    have hk : (kept w one other).length ≤ w.2.length := kept_le
    refine q_asg (P := D (lI (kept w one other))) (Ev.eq (xl_D (xs := List.range w.2.length) (fun a => (twf w one other a).isNone) nI (ex_rng1 (Ev.eq (ev_lenDT (ev_w1 (ev_var h1))) (by rw [List.length_map])) (by omega)) (by rw [List.length_range]; omega) ?_) rfl) g3 fun v8 S8 H8 g8 e8 h8 => ?_
    · rintro a S6 x e6 ha rfl
      have hT := (DciT _).up e6 hT
      refine ⟨_, eg_name, rfl, et_val (Ev.eq (ev_dnotinI (ev_var hT) (ev_var (Dd.int _))) ?_), fun _ => ev_var (Dd.int _)⟩
      show PyData.bool (!(twf w one other a).isSome) = _
      cases twf w one other a <;> rfl
    have h1 := (D _).up e8.st h1
    have hT := (DciT _).up e8.st hT
    refine q_asg (P := D (lI (rmL one other w.1))) (Ev.conv (ev_cat (ts := ((List.range other ++ [one]).map nI).map D) (us := ((List.range' other (w.1 - 1 - other)).map nI).map D) (Ev.conv (ev_cat (ts := ((List.range other).map nI).map D) (us := ([one].map nI).map D) (Ev.Dlst (ev_listRg1 (ev_var (Dd.int _)) (by omega))) (Ev.Dlst (ev_lstD (ds := [nI one]) (ea1 (ev_var (Dd.int _))))) (by simp; omega)) fun S v hv => ?_) (Ev.Dlst (ev_listRg2 (ev_var (Dd.int _)) (Ev.eq (ev_opI (g := fun i j => i - j) (ev_w0 (ev_var h1)) ev_int) (by show PyData.int _ = PyData.int _; congr 1; omega)) (by omega) (by omega))) (by simp; omega)) fun S v hv => ?_) g8 fun v9 S9 H9 g9 e9 h9 => ?_
    · rw [List.map_append, List.map_append]
      exact hv
    · rw [← List.map_append, ← List.map_append] at hv
      exact D_lst.2 hv
    have h1 := (D _).up e9.st h1
    have h8 := (D _).up e9.st h8
    have hT := (DciT _).up e9.st hT
    have okw := wb.toWOk
    refine q_asg (P := D (psD (foldW w one other).2)) (Ev.conv (xl_YD (xs := kept w one other) (fun a => pD (rm one other (be w a), rm one other (en w a))) (ex_listD (xs := kept w one other) (enc := nI) (ev_var h8)) (by omega) ?_) fun S v hv => ?_) g9 fun v10 S10 H10 g10 e10 h10 => ?_
    · rintro a S6 x e6 ha hx
      have h1 := (D _).up e6 h1
      have h9 := (D _).up e6 h9
      obtain rfl := D_int hx
      have hal : a < w.2.length := (mem_kept.mp ha).1
      refine ⟨_, eg_name, rfl, ev_tupD (ds := [nI (rm one other (be w a)), nI (rm one other (en w a))]) (ea2 (ev_ixLN (enc := nI) (ev_var h9) (ev_be (ev_var h1) (ev_var (Dd.int _)) hal) (rmL_at hrg (okw.rng a hal).1)) (ev_ixLN (enc := nI) (ev_var h9) (ev_en (ev_var h1) (ev_var (Dd.int _)) hal) (rmL_at hrg (okw.rng a hal).2)))⟩
    · unfold foldW psD
      rw [List.map_map]
      exact hv
    have h1 := (D _).up e10.st h1
    have h8 := (D _).up e10.st h8
    have hT := (DciT _).up e10.st hT
    refine q_asg (P := D (lI (foldN w one other))) (Ev.eq (xl_YD (xs := List.range w.2.length) (fun a => nI ((kept w one other).idxOf (tg w one other a))) (ex_rng1 (Ev.eq (ev_lenDT (ev_w1 (ev_var h1))) (by rw [List.length_map])) (by omega)) (by rw [List.length_range]; omega) ?_) (lI_map _ _).symm) g10 fun v11 S11 H11 g11 e11 h11 => ?_
    · rintro a S6 x e6 ha rfl
      have h8 := (D _).up e6 h8
      have hT := (DciT _).up e6 hT
      exact ⟨_, eg_name, rfl, ev_index (ev_var h8) (ev_dget2I (ev_var hT) (ev_var (Dd.int _)) (ev_var (Dd.int _))) (tg_kept (by omega) (List.mem_range.mp ha))⟩
    have h1 := (D _).up e11.st h1
    have h8 := (D _).up e11.st h8
    have h10 := (D _).up e11.st h10
    have hT := (DciT _).up e11.st hT
    have hlen : (foldW w one other).2.length ≤ 100 := by
      rw [foldW_len]
      omega
    refine s_ret (ev_tup (ts := [D (wD (foldW w one other)), D (lI (kept w one other)), D (lI (foldN w one other)), DciT (twL w one other w.1)]) (ea_cons (ev_tupD (ds := [nI (w.1 - 1), .tuple ((foldW w one other).2.map pD)]) (ea2 (Ev.eq (ev_opI (g := fun i j => i - j) (ev_w0 (ev_var h1)) ev_int) (by show PyData.int _ = PyData.int _; congr 1; omega)) (Ev.conv (ev_tupleL (Ev.Dlst (ev_var h10))) fun _ _ => D_tup.2))) (ea3 (ev_var h8) (ev_var h11) (ev_var hT)))) g11 k
end
end K49
end
section
set_option linter.all false
set_option maxRecDepth 100000
set_option maxHeartbeats 4000000
namespace KD
open PySem PySem.Spec PyProof.Rows L2 KR
def rDictP (K : PySem.W.Frag) : List V → Hp → VK → Prop := fun xs H Q => ∃ (a : Addr) (ps : List Addr) (kvs : List (L2.Key × V)), xs = [.ref a] ∧ SqL K H a (ps.map V.ref) ∧ Paired (fun p kv => SqT K H p [kV kv.1, kv.2]) ps kvs ∧
    ∀ p, H p = none → Q (.ref p) (L2.upd H p (.dK (mergeK [] kvs)))
theorem call_dictPK {X : Cx} (K : PySem.W.Frag) (hcalm : X.calm = true) (hK : X.K = K := by rfl) : CallR X (.type "dict") (rDictP K) := by
  subst hK
  exact call_dictP hcalm
end KD
namespace K49
open PySem PySem.Spec PyProof.Rows L2 KR KD
theorem put_any (kvs : List (Nat × Nat)) (r a : Nat) : ∃ l, putK (iEnc kvs) (Sum.inl (r : Int)) (.int (a : Nat)) = iEnc l := by
  cases e : lk kvs r with
  | none => exact ⟨_, put_iEnc_new e⟩
  | some b =>
    refine ⟨kvs.map fun p => if p.1 = r then (p.1, a) else p, ?_⟩
    unfold putK
    have hs : ((iEnc kvs).any fun kv => decide (kv.1 = (Sum.inl (r : Int) : L2.Key))) = true := by
      induction kvs with
      | nil => cases e
      | cons p kvs ih =>
        rw [lk_cons] at e
        unfold iEnc
        rw [List.map_cons, List.any_cons, Bool.or_eq_true]
        by_cases c : p.1 = r
        · left
          rw [c]
          exact decide_eq_true rfl
        · rw [if_neg c] at e
          exact .inr (ih e)
    first
      | rw [if_pos hs]
      | skip
    unfold iEnc
    rw [List.map_map, List.map_map]
    refine List.map_congr_left fun p _ => ?_
    show (if _ then _ else _) = _
    by_cases c : p.1 = r
    · have e1 : (Sum.inl (p.1 : Int) : L2.Key) = Sum.inl (r : Int) := by rw [c]
      simp only [Function.comp]
      rw [if_pos e1, if_pos c]
    · have e1 : ¬ (Sum.inl (p.1 : Int) : L2.Key) = Sum.inl (r : Int) := fun z => c (by
        have := Sum.inl.inj z
        omega)
      simp only [Function.comp]
      rw [if_neg e1, if_neg c]
theorem merge_any : ∀ (ps kvs : List (Nat × Nat)), ∃ l, mergeK (iEnc kvs) (iEnc ps) = iEnc l
  | [], kvs => ⟨kvs, rfl⟩
  | p :: ps, kvs => by
    obtain ⟨l, hl⟩ := put_any kvs p.1 p.2
    obtain ⟨l', hl'⟩ := merge_any ps l
    refine ⟨l', ?_⟩
    rw [← hl', ← hl]
    rfl
def DcaT : KD.Ty := ⟨fun S v => ∃ G, (DciT G).ok S v, fun e ⟨G, h⟩ => ⟨G, (DciT G).up e h⟩⟩
def AnyT : KD.Ty := ⟨fun _ _ => True, fun _ _ => trivial⟩
section
variable {md : Md} {S H S' H' S1 H1 S0 H0 : Hp} {K : PySem.W.Frag} {σ : L2.St} {ta tb' te td tx : TE} {P P1 : KD.Ty}
theorem dd_nats (S : Hp) (ns : List Nat) : DdAll S (ns.map fun n : Nat => V.int (n : Nat)) (ns.map nI) := by
  have q := DdAll.ints (S := S) (ns.map fun n : Nat => (n : Int))
  rw [List.map_map, List.map_map] at q
  exact q
theorem ev_any (h : Ev md S te σ P) : Ev md S te σ AnyT := h.conv fun _ _ _ => trivial
def piT (p : Nat × Nat) : KD.Ty := TupT [D (nI p.1), D (nI p.2)]
theorem prs_all {H : Hp} (e : Same S H) : ∀ {kvs : List (Nat × Nat)} {vs : List V}, KD.All S vs (kvs.map piT) → ∃ ps : List Addr, vs = ps.map V.ref ∧ Paired (fun p kv => SqT K H p [kV kv.1, kv.2]) ps (iEnc kvs)
  | [], _, h => by
    cases h
    exact ⟨[], rfl, .nil⟩
  | p :: kvs, _, h => by
    cases h with
    | @cons v vs _ _ h1 h2 =>
      obtain ⟨es, rfl, q1⟩ := prs_all e h2
      obtain ⟨a, xs, rfl, b1, b2⟩ := h1
      obtain ⟨x, y, rfl, c1, c2⟩ := b2.two
      obtain rfl := D_int c1
      obtain rfl := D_int c2
      exact ⟨a :: es, rfl, .cons (SqT.of (e _ _ b1)) q1⟩
theorem ev_dictPFrz {kvs : List (Nat × Nat)} (h : Ev md S te σ (LstT (kvs.map piT))) : Ev md S (tFrz (tCB (rDictP K) (tCons te tNil))) σ DcaT := fun S1 H R e o k => by
    refine ea1 h S1 H (fun vs H1 => rDictP K vs H1 fun v H1 => ∃ d u, v = .ref d ∧ H1 d = some u ∧ Mut (some u) ∧ ∀ o, R v (L2.upd H1 d (.frz o u))) e o fun vs S2 H2 g2 hv => ?_
    obtain ⟨v, rfl, hw⟩ := hv.one
    obtain ⟨a, xs, rfl, b1, b2⟩ := hw
    obtain ⟨es, rfl, q1⟩ := prs_all (K := K) g2.k.le b2
    obtain ⟨G, hG⟩ := merge_any kvs []
    refine ⟨a, es, iEnc kvs, rfl, SqL.of (g2.k.le _ _ b1), q1, fun p hp => ⟨p, _, rfl, upd_same, trivial, fun o => ?_⟩⟩
    rw [show mergeK [] (iEnc kvs) = iEnc G from hG]
    have eu : L2.upd (L2.upd H2 p (.dK (iEnc G))) p (.frz o (.dK (iEnc G))) = L2.upd H2 p (.frz o (.dK (iEnc G))) := by
      funext b
      by_cases c : b = p
      · rw [c, upd_same, upd_same]
      · rw [upd_ne c, upd_ne c, upd_ne c]
    rw [eu]
    exact k _ _ _ (g2.trans (g2.k.new hp)) ⟨G, p, rfl, .inr ⟨o, upd_same⟩⟩
/-- list(d) -/
theorem ev_keysI {kvs : List (Nat × Nat)} (h : Ev md S te σ (DciT kvs)) : Ev md S (tCB (fun xs H Q => ∃ (a : Addr) (kvs : List (L2.Key × V)), xs = [.ref a] ∧ L2.Rd H a (.dK kvs) ∧ ∀ p, H p = none → Q (.ref p) (L2.upd H p (.lst (kvs.map fun kv => kV kv.1)))) (tCons te tNil)) σ (D (lI (kvs.map (·.1)))) :=
  ev_cb (ea1 h) fun S1 vs e hv H R b k => by
    obtain ⟨v, rfl, d, rfl, hd⟩ := hv.one
    refine ⟨d, _, rfl, rd_up b.le hd, fun p hp => k _ _ _ (b.new hp) (Dd.lst upd_same ?_)⟩
    have : (iEnc kvs).map (fun kv => kV kv.1) = (kvs.map (·.1)).map fun n : Nat => V.int (n : Nat) := by
      unfold iEnc
      rw [List.map_map, List.map_map]
      rfl
    rw [this]
    exact dd_nats _ _
end
theorem lk_has {α : Type} [DecidableEq α] : ∀ {kvs : List (α × Nat)} {k : α}, k ∈ kvs.map (·.1) → ∃ a, lk kvs k = some a
  | p :: kvs, k, h => by
    rw [lk_cons]
    by_cases c : p.1 = k
    · exact ⟨_, if_pos c⟩
    · rw [if_neg c]
      rcases List.mem_cons.mp h with h | h
      · exact absurd h.symm c
      · exact lk_has h
theorem rows_sq (w : W) (j : Nat) : (rowsN w (j + 1)).length ≤ (rowsN w j).length * w.2.length := by
  show ((rowsN w j).flatMap fun r => (onn w (lst0 r)).map fun a => r ++ [a]).length ≤ _
  induction rowsN w j with
  | nil => exact Nat.zero_le _
  | cons r l ih =>
    rw [List.flatMap_cons, List.length_append, List.length_cons, Nat.succ_mul, List.length_map]
    have : (onn w (lst0 r)).length ≤ w.2.length := outs_le w _
    omega
theorem rows_one (w : W) : (rowsN w 0).length = w.2.length := by
  show ((List.range w.2.length).map fun a => [a]).length = _
  rw [List.length_map, List.length_range]
theorem many_two {w : W} (ok : WOk w) {n : Nat} (h : w.2.length ≤ n) : many w 2 ≤ n * n := by
  rw [← rowsN_len ok]
  refine Nat.le_trans (rows_sq w 0) ?_
  rw [rows_one]
  exact Nat.mul_le_mul h h
theorem put_dEnc_last {kvs : List (List Nat × Nat)} {r : List Nat} {a b : Nat} (h : lk kvs r = none) : putK (dEnc (kvs ++ [(r, a)])) (keyN r) (.int (b : Nat)) = dEnc (kvs ++ [(r, b)]) := by
  have hn : ∀ p ∈ kvs, p.1 ≠ r := by
    induction kvs with
    | nil => exact fun p hp => by cases hp
    | cons q kvs ih =>
      rw [lk_cons] at h
      by_cases c : q.1 = r
      · rw [if_pos c] at h
        cases h
      · rw [if_neg c] at h
        intro p hp
        rcases List.mem_cons.mp hp with rfl | hp
        · exact c
        · exact ih h p hp
  unfold putK
  have hs : ((dEnc (kvs ++ [(r, a)])).any fun kv => decide (kv.1 = keyN r)) = true := by
    unfold dEnc
    rw [List.map_append, List.any_append, Bool.or_eq_true]
    exact .inr (by simp)
  first
    | rw [if_pos hs]
    | skip
  unfold dEnc
  rw [List.map_map, List.map_append, List.map_append]
  congr 1
  · refine List.map_congr_left fun p hp => ?_
    have e1 : ¬ (keyN p.1 = keyN r) := fun z => hn p hp (keyN_inj z)
    simp only [Function.comp]
    rw [if_neg e1]
  · simp
/-- a code from w: into a web of at most R rooms, A arrows; the way back is any value -/
def CoT (w : W) (R A : Nat) : KD.Ty := ⟨fun S x => ∃ v j T', WOk v ∧ v.1 ≤ R ∧ v.2.length ≤ A ∧ Rd w v j T' ∧ j ≤ 1 ∧ (TupT [RdT w v j T', AnyT]).ok S x, fun e ⟨v, j, T', a, b, c, d, f, h⟩ => ⟨v, j, T', a, b, c, d, f, (TupT _).up e h⟩⟩
def sp_z_fold_codes : Sp := spP (α := W × Nat × Nat) (fun a => Wb a.1 ∧ a.1.2.length ≤ 30 ∧ FoldP a.1 a.2.1 a.2.2) (fun a => [D (wD a.1), D (nI a.2.1), D (nI a.2.2)]) (fun a => CoT a.1 a.1.1 a.1.2.length)
def sp_z_split_codes : Sp := spP (α := W × Nat × List Nat) (fun a => Wb a.1 ∧ a.1.2.length ≤ 30 ∧ SplOk a.1 a.2.1 a.2.2) (fun a => [D (wD a.1), D (nI a.2.1), D (lI a.2.2)]) (fun a => CoT a.1 (a.1.1 + 1) (a.1.2.length + (ins a.1 a.2.1).length))
def sp_z_named_codes : Sp := spP (α := W × List Nat × List Nat) (fun a => Wb a.1 ∧ a.2.1.Perm (List.range a.1.1) ∧ a.2.2.Perm (List.range a.1.2.length)) (fun a => [D (wD a.1), D (lI a.2.1), D (lI a.2.2)]) (fun a => CoT a.1 a.1.1 a.1.2.length)
section
variable {P : Program} {w : World} {K : PySem.W.Frag} {mg : Str → Option Value} {base : Heap}
abbrev t_z_named_codes : Stmt := top 63
theorem sc_z_named_codes : FnScope ["_law_w", "_law_rooms", "_law_arrows", "_law_v", "_law_back", "_law_at"] ["_law_w", "_law_rooms", "_law_arrows"] (defScope t_z_named_codes) := ⟨rfl, rfl, rfl, by decide +kernel, rfl, by decide +kernel, by decide +kernel⟩
theorem ok_z_named_codes {f : Addr} {fd : FuncData} (F : Fun K "_law_named_codes" "_law_named_codes" t_z_named_codes f fd) (T : Txt mg)
    (C_z_by_arrows : Df P w K mg base "_law_by_arrows" 1 ["_law_w", "_law_v", "_law_arrows"] sp_z_by_arrows)
    (C_z_named : Df P w K mg base "_law_named" 1 ["_law_w", "_law_rooms", "_law_arrows"] sp_z_named)
    : FnOk P w K mg base CX0 2 f fd ["_law_w", "_law_rooms", "_law_arrows"] sp_z_named_codes := by
  obtain ⟨f_z_by_arrows, fd_z_by_arrows, G_z_by_arrows, m_z_by_arrows, k_z_by_arrows, b_z_by_arrows⟩ := C_z_by_arrows.ex
  obtain ⟨f_z_named, fd_z_named, G_z_named, m_z_named, k_z_named, b_z_named⟩ := C_z_named.ex
  refine F.ok sc_z_named_codes (fun vs H Q E h => by obtain ⟨_, _, _, _, hv, _⟩ := h; exact hv.len) (fun cdv A outer s H vs Q E hr h => ?_)
  obtain ⟨S, ⟨w, rs, as⟩, hd, hS, hv, k⟩ := h
  dsimp only at hd hv k
  have g0 : Gr md0 S H S H := Gr.refl (ok0 hS)
  obtain ⟨wb, p1, p2⟩ := hd
  obtain ⟨v1, v2, v3, rfl, h1, h2, h3⟩ := hv.three
  refine ⟨_, (pss_cons (ps_set (i := 3) sc_z_named_codes.nd rfl (.inl rfl) (pe_call G_z_named (hr.mono (by decide)) (by rfl) m_z_named k_z_named b_z_named .nil pass0 (pa_cons (pv 0) (pa_cons (pv 1) (pa_cons (pv 2) pa_nil)))))
    (pss_cons (ps_setLc (i := 4) (own := [("_law_at", 5)]) (by rfl) sc_z_named_codes.nd rfl rfl (sw_true rfl rfl rfl (by decide +kernel)) (pi_range1 (by rfl) T.range (pa_cons (pe_callB (call_lenK K) (by rfl) T.len PySem.boot_len (pa_cons (pv 2) pa_nil)) pa_nil)) (blkOk_by (own := [("_law_at", 5)]) (N := ["_law_w", "_law_rooms", "_law_arrows", "_law_v", "_law_back", "_law_at"]) (sc := defScope t_z_named_codes) (by decide +kernel)) (fun _ _ _ _ _ => (pg_name (i := 5) sc_z_named_codes.nd rfl (.inl rfl))) (fun _ _ _ _ _ => pts_nil) (fun _ _ _ _ _ => (pe_bmK K PySem.F.plainAttrs_list PySem.F.slot_list_index PySem.F.type_list_index (mt_indexK K) (pv 2) (pa_cons (pv 5) pa_nil))))
    (pss_one (ps_ret (pe_tup (pa_cons (pe_call G_z_by_arrows (hr.mono (by decide)) (by rfl) m_z_by_arrows k_z_by_arrows b_z_by_arrows .nil pass0 (pa_cons (pv 0) (pa_cons (pv 3) (pa_cons (pv 2) pa_nil)))) (pa_cons (pe_call G_z_by_arrows (hr.mono (by decide)) (by rfl) m_z_by_arrows k_z_by_arrows b_z_by_arrows .nil pass0 (pa_cons (pv 3) (pa_cons (pv 0) (pa_cons (pv 4) pa_nil)))) pa_nil))))))), ?_⟩
  have l2 : w.2.length ≤ 100 := wb.le
  have la : as.length = w.2.length := by
    have := p2.length_eq
    rw [List.length_range] at this
    exact this
  refine q_asg (ev_call (w, rs, as) ⟨wb, p1, p2⟩ (ea3 (ev_var h1) (ev_var h2) (ev_var h3))) g0 fun v4 S1 H1 g1 e1 h4 => ?_
  obtain ⟨u, nam, h4⟩ := h4
  have h1 := (D _).up e1.st h1
  have h3 := (D _).up e1.st h3
  refine q_asg (P := D (lI ((List.range as.length).map fun i => as.idxOf i))) (Ev.eq (xl_YD (xs := List.range as.length) (fun a => nI (as.idxOf a)) (ex_rng1 (Ev.eq (ev_lenDL (ev_var h3)) (by rw [List.length_map])) (by omega)) (by rw [List.length_range]; omega) ?_) (lI_map _ _).symm) g1 fun v5 S2 H2 g2 e2 h5 => ?_
  · rintro a S6 x e6 ha rfl
    have h3 := (D _).up e6 h3
    refine ⟨_, eg_name, rfl, ev_index (ev_var h3) (ev_var (Dd.int _)) ?_⟩
    rw [p2.mem_iff, ← la]
    exact ha
  have h1 := (D _).up e2.st h1
  have h3 := (D _).up e2.st h3
  have h4 := (D _).up e2.st h4
  have hu : u.2.length ≤ 1000 := Nat.le_trans (Nat.le_of_eq nam.len) (Nat.le_trans l2 (by decide))
  refine s_ret (P := CoT w w.1 w.2.length) (Ev.conv (ev_tup (ts := [RdT w u 0 (byA as), AnyT]) (ea2 (ev_call (w, u, as) ⟨la, by show w.2.length ≤ 1000; omega⟩ (ea3 (ev_var h1) (ev_var h4) (ev_var h3))) (ev_any (ev_call (u, w, (List.range as.length).map fun i => as.idxOf i) ⟨by show (List.map _ _).length = u.2.length; rw [List.length_map, List.length_range, nam.len, la], hu⟩ (ea3 (ev_var h4) (ev_var h1) (ev_var h5)))))) fun S v hv => ?_) g2 k
  exact ⟨u, 0, byA as, nam_ok nam, Nat.le_of_eq nam.n, Nat.le_of_eq nam.len, nam_rd nam, Nat.zero_le _, hv⟩
abbrev t_z_fold_codes : Stmt := top 61
theorem sc_z_fold_codes : FnScope ["_law_w", "_law_one", "_law_other", "_law_v", "_law_kept_z", "_law_numbers", "_law_twin", "_law_gone", "_law_table", "_law_row", "_law_first", "_law_second", "_law_arrow"] ["_law_w", "_law_one", "_law_other"] (defScope t_z_fold_codes) := ⟨rfl, rfl, rfl, by decide +kernel, rfl, by decide +kernel, by decide +kernel⟩
theorem ok_z_fold_codes {f : Addr} {fd : FuncData} (F : Fun K "_law_fold_codes" "_law_fold_codes" t_z_fold_codes f fd) (T : Txt mg)
    (C_z_by_arrows : Df P w K mg base "_law_by_arrows" 1 ["_law_w", "_law_v", "_law_arrows"] sp_z_by_arrows)
    (C_z_fold : Df P w K mg base "_law_fold" 2 ["_law_w", "_law_one", "_law_other"] sp_z_fold)
    (C_z_least : Df P w K mg base "_law_least" 1 ["_law_f"] sp_z_least)
    (C_z_rows : Df P w K mg base "_law_rows" 3 ["_law_w", "_law_length"] sp_z_rows)
    : FnOk P w K mg base CX0 4 f fd ["_law_w", "_law_one", "_law_other"] sp_z_fold_codes := by
  obtain ⟨f_z_by_arrows, fd_z_by_arrows, G_z_by_arrows, m_z_by_arrows, k_z_by_arrows, b_z_by_arrows⟩ := C_z_by_arrows.ex
  obtain ⟨f_z_fold, fd_z_fold, G_z_fold, m_z_fold, k_z_fold, b_z_fold⟩ := C_z_fold.ex
  obtain ⟨f_z_least, fd_z_least, G_z_least, m_z_least, k_z_least, b_z_least⟩ := C_z_least.ex
  obtain ⟨f_z_rows, fd_z_rows, G_z_rows, m_z_rows, k_z_rows, b_z_rows⟩ := C_z_rows.ex
  refine F.ok sc_z_fold_codes (fun vs H Q E h => by obtain ⟨_, _, _, _, hv, _⟩ := h; exact hv.len) (fun cdv A outer s H vs Q E hr h => ?_)
  obtain ⟨S, ⟨w, one, other⟩, hd, hS, hv, k⟩ := h
  dsimp only at hd hv k
  have g0 : Gr md0 S H S H := Gr.refl (ok0 hS)
  obtain ⟨wb, few, fp⟩ := hd
  obtain ⟨v1, v2, v3, rfl, h1, h2, h3⟩ := hv.three
  refine ⟨_, (pss_cons (ps_asg (pe_call G_z_fold (hr.mono (by decide)) (by rfl) m_z_fold k_z_fold b_z_fold .nil pass0 (pa_cons (pv 0) (pa_cons (pv 1) (pa_cons (pv 2) pa_nil)))) (pg_tupK K (n := 4) rfl (pgs_cons (pg_name (i := 3) sc_z_fold_codes.nd rfl (.inl rfl)) (pgs_cons (pg_name (i := 4) sc_z_fold_codes.nd rfl (.inl rfl)) (pgs_cons (pg_name (i := 5) sc_z_fold_codes.nd rfl (.inl rfl)) (pgs_cons (pg_name (i := 6) sc_z_fold_codes.nd rfl (.inr rfl)) pgs_nil))))))
    (pss_cons (ps_set (i := 7) sc_z_fold_codes.nd rfl (.inl rfl) (pe_frz (pe_callTy (call_dictPK K rfl) (by rfl) T.dict (by decide +kernel) (pa_cons (pe_lc (own := [("_law_arrow", 12)]) (by rfl) sc_z_fold_codes.nd (pi_listK K (pe_callTy (call_listD rfl) (by rfl) T.list (by decide +kernel) (pa_cons (pv 6) pa_nil))) (blkOk_by (own := [("_law_arrow", 12)]) (N := ["_law_w", "_law_one", "_law_other", "_law_v", "_law_kept_z", "_law_numbers", "_law_twin", "_law_gone", "_law_table", "_law_row", "_law_first", "_law_second", "_law_arrow"]) (sc := defScope t_z_fold_codes) (by decide +kernel)) (fun _ _ _ _ _ => (pg_name (i := 12) sc_z_fold_codes.nd rfl (.inl rfl))) (fun _ _ _ _ _ => pts_nil) (fun _ _ _ _ _ => (pe_tup (pa_cons (pe_dget (hu_of hr) (pv 6) (pv 12) (fun _ _ => rfl)) (pa_cons (pv 12) pa_nil))))) pa_nil))))
    (pss_cons (ps_set (i := 8) sc_z_fold_codes.nd rfl (.inl rfl) pe_dnewT)
    (pss_cons (ps_for PassesOwn.never rfl (pi_listK K (pe_call G_z_rows (hr.mono (by decide)) (by rfl) m_z_rows k_z_rows b_z_rows .nil pass0 (pa_cons (pv 3) (pa_cons pe_int pa_nil)))) (pg_name (i := 9) sc_z_fold_codes.nd rfl (.inl rfl))
      (pss_cons (ps_par (i := 10) (j := 11) (by rfl) sc_z_fold_codes.nd rfl rfl (by decide) rfl rfl (pa_cons (pe_ix (ix_listK K) (pv 4) (pe_ix (ix_tupK K) (pv 9) pe_int (fun _ _ => rfl)) (fun _ _ => rfl)) (pa_cons (pe_ix (ix_listK K) (pv 4) (pe_ix (ix_tupK K) (pv 9) pe_int (fun _ _ => rfl)) (fun _ _ => rfl)) pa_nil)) (by rfl))
      (pss_one (ps_dput (hu_of hr) (pv 8) (pv 9) (pe_ifExp (PW.pt (pw_and (pt_cmp (pc_din (hu_of hr) (pv 10) (pv 7))) (pw_and1 (pt_cmpR op_eq (pe_ix (ix_tupK K) (pe_ix (ix_tupK K) (pe_ix (ix_tupK K) (pv 0) pe_int (fun _ _ => rfl)) (pv 11) (fun _ _ => rfl)) pe_int (fun _ _ => rfl)) (pv 2) (nomark _))))) (pe_dget (hu_of hr) (pv 7) (pv 10) (fun _ _ => rfl)) (pv 10)) rfl))))
    (pss_one (ps_frz (ps_ret (pe_tup (pa_cons (pe_call G_z_least (hr.mono (by decide)) (by rfl) m_z_least k_z_least b_z_least .nil pass0 (pa_cons (pe_call G_z_by_arrows (hr.mono (by decide)) (by rfl) m_z_by_arrows k_z_by_arrows b_z_by_arrows .nil pass0 (pa_cons (pv 0) (pa_cons (pv 3) (pa_cons (pv 5) pa_nil)))) pa_nil)) (pa_cons (pe_call G_z_least (hr.mono (by decide)) (by rfl) m_z_least k_z_least b_z_least .nil pass0 (pa_cons (pe_tup (pa_cons (pv 3) (pa_cons (pv 0) (pa_cons pe_int (pa_cons (pv 8) pa_nil))))) pa_nil)) pa_nil)))))))))), ?_⟩
  have fo := fp.ok wb.toWOk
  have okw := wb.toWOk
  obtain rfl := D_int h2
  obtain rfl := D_int h3
  refine Ev.go (ev_call (w, one, other) ⟨wb, fp⟩ (ea3 (ev_var h1) (ev_var (Dd.int _)) (ev_var (Dd.int _)))) g0 fun vf S1 H1 g1 e1 hf => ?_
  obtain ⟨af, vs, rfl, f1, f2⟩ := hf
  obtain ⟨x1, x2, x3, x4, rfl, y1, y2, y3, y4⟩ := f2.four
  refine ⟨af, _, rfl, SqT.of (g1.k.le _ _ f1), rfl, _, _, rfl, _, _, rfl, _, _, rfl, _, _, rfl, rfl, ?_⟩
  dsimp only
  show tSeq (tAsg _ _) _ _ [some v1, some (.int (one : Nat)), some (.int (other : Nat)), some x1, some x2, some x3, some x4, none, none, none, none, none, none] H1
  have h1 := (D _).up e1.st h1
  have hvl : (foldW w one other).2.length ≤ 30 := by
    rw [foldW_len]
    exact Nat.le_trans kept_le few
  have hvr : (foldW w one other).1 ≤ 50 := Nat.le_trans (Nat.sub_le _ _) wb.few
  have hvb : Wb (foldW w one other) := ⟨fold_ok fo, hvr, by omega⟩
  have m2 : many (foldW w one other) 2 ≤ 30 * 30 := many_two (fold_ok fo) hvl
  have tfew := twL_few w one other w.1 wb (Nat.le_refl _)
  refine q_asg (P := DcaT) (ev_dictPFrz (kvs := ((twL w one other w.1).map (·.1)).map fun a => ((lk (twL w one other w.1) a).getD 0, a)) (Ev.conv (xl_Y (xs := (twL w one other w.1).map (·.1)) (fun a => piT ((lk (twL w one other w.1) a).getD 0, a)) (ex_listD (enc := nI) (ev_keysI (ev_var y4))) (by rw [List.length_map]; omega) ?_) fun S v hv => ?_)) g1 fun v7 S2 H2 g2 e2 h7 => ?_
  · rintro a S6 x e6 ha hx
    have y4 := (DciT _).up e6 y4
    obtain rfl := D_int hx
    obtain ⟨b, hb⟩ := lk_has ha
    refine ⟨_, eg_name, rfl, ev_tup (ts := [D (nI ((lk (twL w one other w.1) a).getD 0)), D (nI a)]) (ea2 ?_ (ev_var (Dd.int _)))⟩
    rw [hb]
    exact ev_dgetI (ev_var y4) (ev_var (Dd.int _)) hb
  · rw [List.map_map]
    exact hv
  obtain ⟨G, h7⟩ := h7
  have h1 := (D _).up e2.st h1
  have y1 := (D _).up e2.st y1
  have y2 := (D _).up e2.st y2
  have y3 := (D _).up e2.st y3
  refine q_newT g2 fun d H3 g3 e3 w3 => ?_
  let U : Tb := fun r => if ((lk G ((kept w one other).getD (r.getD 0 0) 0)).isSome && decide (be w ((kept w one other).getD (r.getD 1 0) 0) = other)) = true then (lk G ((kept w one other).getD (r.getD 0 0) 0)).getD 0 else (kept w one other).getD (r.getD 0 0) 0
  have rfew : (rowsN (foldW w one other) 1).length ≤ 1000 := by
    rw [rowsN_len hvb.toWOk]
    show many (foldW w one other) 2 ≤ 1000
    omega
  refine q_for (ex_listD (xs := rowsN (foldW w one other) 1) (enc := tI) (ev_call (foldW w one other, 1) ⟨hvb, by show (1 : Nat) ≤ 100; decide, by show many (foldW w one other) 2 ≤ 1000; omega⟩ (ea2 (ev_var y1) ev_int))) g3 (fun i σ S' H' => ∃ (z t u : Option V), σ = [some v1, some (.int (one : Nat)), some (.int (other : Nat)), some x1, some x2, some x3, some x4, some v7, some (.ref d), z, t, u, none] ∧ Own md0 S H S' H' d (.dT (dEnc (fil (rowsN (foldW w one other) 1) U i)))) (fun S4 H4 e4 => ⟨none, none, none, rfl, w3.step g3 e4⟩) ?_ ?_
  · rintro Sb i r σ2 S4 H4 x S5 H5 hi eb g5 e5 ⟨z, t, u, rfl, w4⟩ e6 hx
    have w5 := w4.step g5 e6
    have hr : r ∈ rowsN (foldW w one other) 1 := List.mem_of_getElem? hi
    obtain ⟨a, b, ha, hb, _, rfl⟩ := rows1 hr
    rw [foldW_len] at ha hb
    have h1 := (D _).up (eb.trans e5) h1
    have y2 := (D _).up (eb.trans e5) y2
    have h7 := (DciT _).up (eb.trans e5) h7
    have ga : (kept w one other)[a]? = some ((kept w one other).getD a 0) := by
      rw [List.getD_eq_getElem?_getD, List.getElem?_eq_getElem ha]
      rfl
    have gb : (kept w one other)[b]? = some ((kept w one other).getD b 0) := by
      rw [List.getD_eq_getElem?_getD, List.getElem?_eq_getElem hb]
      rfl
    have hbl : (kept w one other).getD b 0 < w.2.length := (mem_kept.mp (List.mem_of_getElem? gb)).1
    show tSeq (tPar _ _ _) _ _ [some v1, some (.int (one : Nat)), some (.int (other : Nat)), some x1, some x2, some x3, some x4, some v7, some (.ref d), some x, t, u, none] H5
    refine q_par (P := D (nI ((kept w one other).getD a 0))) (P1 := D (nI ((kept w one other).getD b 0))) (ea2 (ev_ixLN (enc := nI) (ev_var y2) (ev_ixTN (enc := nI) (a := 0) (x := a) (ev_var hx) ev_int rfl) ga) (ev_ixLN (enc := nI) (ev_var y2) (ev_ixTN (enc := nI) (a := 1) (x := b) (ev_var hx) ev_int rfl) gb)) g5 fun z1 z2 S6 H6 g6 e7 k1 k2 => ?_
    obtain rfl := D_int k1
    obtain rfl := D_int k2
    have h1 := (D _).up e7.st h1
    have h7 := (DciT _).up e7.st h7
    have hx := (D _).up e7.st hx
    refine s_dputO (r := [a, b]) (a := U [a, b]) (ev_if (et_and (et_val (ev_dinI (ev_var h7) (ev_var (Dd.int _)))) fun _ => et_val (ev_eqN (ev_be (ev_var h1) (ev_var (Dd.int _)) hbl) (ev_var (Dd.int _)))) (fun hc => ?_) (fun hc => ?_)) ha_var (ev_var hx) g6 (w5.step g5 e7) (Nat.lt_of_le_of_lt (Nat.le_trans (fil_len _ _ _) rfew) (by decide)) fun S7 H7 g7 e8 w7 _ => ⟨S7, g7, e5.trans (e7.st.trans e8), some x, _, _, rfl, ?_⟩
    · have eU : U [a, b] = (lk G ((kept w one other).getD a 0)).getD 0 := if_pos hc
      rw [eU]
      obtain ⟨c1, _⟩ := (Bool.and_eq_true _ _).mp hc
      obtain ⟨q, hq⟩ := Option.isSome_iff_exists.mp c1
      rw [hq]
      exact ev_dgetI (ev_var h7) (ev_var (Dd.int _)) hq
    · have eU : U [a, b] = (kept w one other).getD a 0 := if_neg (fun z => Bool.false_ne_true (hc.symm.trans z))
      rw [eU]
      exact ev_var (Dd.int _)
    · rw [fil_put (rowsN_nodup _ _) hi] at w7
      exact w7
  · rintro σ2 S4 H4 g4 e4 ⟨z, t, u, rfl, w4⟩
    rw [fil_full] at w4
    refine s_frz w4 g4 trivial fun o H5 g5 e5 => ?_
    have hnew : (DctT (tb (foldW w one other) 1 U)).ok (L2.upd S4 d (.frz o (.dT (dEnc (tb (foldW w one other) 1 U))))) (.ref d) := ⟨d, rfl, .inr ⟨o, upd_same⟩⟩
    have h1 := (D _).up (e4.trans e5) h1
    have y1 := (D _).up (e4.trans e5) y1
    have y3 := (D _).up (e4.trans e5) y3
    have rd0 : Rd w (foldW w one other) 0 (byA (foldN w one other)) := fold_rd fo
    have hnl : (foldN w one other).length = w.2.length := by
      unfold foldN
      rw [List.length_map, List.length_range]
    refine s_ret (P := CoT w w.1 w.2.length) (Ev.conv (ev_tup (ts := [RdT w (foldW w one other) (lst w 0 (byA (foldN w one other))).1 (lst w 0 (byA (foldN w one other))).2, AnyT]) (ea2 (ev_call (w, foldW w one other, 0, byA (foldN w one other)) ⟨okw, by show (rowsN w 0).length ≤ 1000; rw [rows_one]; omega, by show many w 1 ≤ 1000; rw [many_one okw]; omega⟩ (ea1 (ev_call (w, foldW w one other, foldN w one other) ⟨hnl, by show w.2.length ≤ 1000; omega⟩ (ea3 (ev_var h1) (ev_var y1) (ev_var y3))))) (ev_any (ev_call (foldW w one other, w, 1, U) ⟨hvb.toWOk, rfew, by show many (foldW w one other) 2 ≤ 1000; omega⟩ (ea1 (ev_tup (ts := [D (wD (foldW w one other)), D (wD w), D (nI 2), DctT (tb (foldW w one other) 1 U)]) (ea_cons (ev_var y1) (ea3 (ev_var h1) ev_int (ev_var hnew))))))))) fun S v hv => ?_) g5 k
    exact ⟨foldW w one other, _, _, hvb.toWOk, Nat.sub_le _ _, by rw [foldW_len]; exact kept_le, rd0.least okw, Nat.le_trans (lst_le _ _ _) (by decide), hv⟩
abbrev t_z_split_codes : Stmt := top 62
theorem sc_z_split_codes : FnScope ["_law_w", "_law_room", "_law_part_here", "_law_v", "_law_elders", "_law_table", "_law_row", "_law_at", "_law_elder"] ["_law_w", "_law_room", "_law_part_here"] (defScope t_z_split_codes) := ⟨rfl, rfl, rfl, by decide +kernel, rfl, by decide +kernel, by decide +kernel⟩
theorem ok_z_split_codes {f : Addr} {fd : FuncData} (F : Fun K "_law_split_codes" "_law_split_codes" t_z_split_codes f fd) (T : Txt mg)
    (C_z_by_arrows : Df P w K mg base "_law_by_arrows" 1 ["_law_w", "_law_v", "_law_arrows"] sp_z_by_arrows)
    (C_z_least : Df P w K mg base "_law_least" 1 ["_law_f"] sp_z_least)
    (C_z_rows : Df P w K mg base "_law_rows" 3 ["_law_w", "_law_length"] sp_z_rows)
    (C_z_split : Df P w K mg base "_law_split" 2 ["_law_w", "_law_room", "_law_part_here"] sp_z_split)
    : FnOk P w K mg base CX0 4 f fd ["_law_w", "_law_room", "_law_part_here"] sp_z_split_codes := by
  obtain ⟨f_z_by_arrows, fd_z_by_arrows, G_z_by_arrows, m_z_by_arrows, k_z_by_arrows, b_z_by_arrows⟩ := C_z_by_arrows.ex
  obtain ⟨f_z_least, fd_z_least, G_z_least, m_z_least, k_z_least, b_z_least⟩ := C_z_least.ex
  obtain ⟨f_z_rows, fd_z_rows, G_z_rows, m_z_rows, k_z_rows, b_z_rows⟩ := C_z_rows.ex
  obtain ⟨f_z_split, fd_z_split, G_z_split, m_z_split, k_z_split, b_z_split⟩ := C_z_split.ex
  refine F.ok sc_z_split_codes (fun vs H Q E h => by obtain ⟨_, _, _, _, hv, _⟩ := h; exact hv.len) (fun cdv A outer s H vs Q E hr h => ?_)
  obtain ⟨S, ⟨w, room, part⟩, hd, hS, hv, k⟩ := h
  dsimp only at hd hv k
  have g0 : Gr md0 S H S H := Gr.refl (ok0 hS)
  obtain ⟨wb, few, so⟩ := hd
  obtain ⟨v1, v2, v3, rfl, h1, h2, h3⟩ := hv.three
  refine ⟨_, (pss_cons (ps_asg (pe_call G_z_split (hr.mono (by decide)) (by rfl) m_z_split k_z_split b_z_split .nil pass0 (pa_cons (pv 0) (pa_cons (pv 1) (pa_cons (pv 2) pa_nil)))) (pg_tupK K (n := 2) rfl (pgs_cons (pg_name (i := 3) sc_z_split_codes.nd rfl (.inr rfl)) (pgs_cons (pg_name (i := 4) sc_z_split_codes.nd rfl (.inl rfl)) pgs_nil))))
    (pss_cons (ps_set (i := 5) sc_z_split_codes.nd rfl (.inl rfl) pe_dnewT)
    (pss_cons (ps_for PassesOwn.never rfl (pi_listK K (pe_call G_z_rows (hr.mono (by decide)) (by rfl) m_z_rows k_z_rows b_z_rows .nil pass0 (pa_cons (pv 0) (pa_cons pe_int pa_nil)))) (pg_name (i := 6) sc_z_split_codes.nd rfl (.inr rfl))
      (pss_cons (ps_dput (hu_of hr) (pv 5) (pv 6) (pe_ix (ix_tupK K) (pv 6) pe_int (fun _ _ => rfl)) rfl)
      (pss_one (ps_if (pt_cmpR (op_in_seqK K) (pe_ix (ix_tupK K) (pv 6) pe_int (fun _ _ => rfl)) (pv 2) (by rfl))
        (pss_one (ps_dput (hu_of hr) (pv 5) (pv 6) (pe_ix (ix_listK K) (pe_lc (own := [("_law_at", 7), ("_law_elder", 8)]) (by rfl) sc_z_split_codes.nd (pi_enumK K (by rfl) T.enumerate (pa_cons (pv 4) pa_nil)) (blkOk_by (own := [("_law_at", 7), ("_law_elder", 8)]) (N := ["_law_w", "_law_room", "_law_part_here", "_law_v", "_law_elders", "_law_table", "_law_row", "_law_at", "_law_elder"]) (sc := defScope t_z_split_codes) (by decide +kernel)) (fun _ _ _ _ _ => (pg_tupK K (n := 2) rfl (pgs_cons (pg_name (i := 7) sc_z_split_codes.nd rfl (.inl rfl)) (pgs_cons (pg_name (i := 8) sc_z_split_codes.nd rfl (.inl rfl)) pgs_nil)))) (fun _ _ _ _ _ => (pts_one (PW.pt (pw_and (pt_cmpR op_eq (pv 8) (pe_ix (ix_tupK K) (pv 6) pe_int (fun _ _ => rfl)) (nomark _)) (pw_and1 (pt_cmpR op_eq (pe_ix (ix_tupK K) (pe_ix (ix_tupK K) (pe_ix (ix_tupK K) (pv 3) pe_int (fun _ _ => rfl)) (pv 7) (fun _ _ => rfl)) pe_int (fun _ _ => rfl)) (pe_ix (ix_tupK K) (pv 0) pe_int (fun _ _ => rfl)) (nomark _))))))) (fun _ _ _ _ _ => (pv 7))) pe_int (fun _ _ => rfl)) rfl))
        pss_nil))))
    (pss_one (ps_frz (ps_ret (pe_tup (pa_cons (pe_call G_z_least (hr.mono (by decide)) (by rfl) m_z_least k_z_least b_z_least .nil pass0 (pa_cons (pe_tup (pa_cons (pv 0) (pa_cons (pv 3) (pa_cons pe_int (pa_cons (pv 5) pa_nil))))) pa_nil)) (pa_cons (pe_call G_z_least (hr.mono (by decide)) (by rfl) m_z_least k_z_least b_z_least .nil pass0 (pa_cons (pe_call G_z_by_arrows (hr.mono (by decide)) (by rfl) m_z_by_arrows k_z_by_arrows b_z_by_arrows .nil pass0 (pa_cons (pv 3) (pa_cons (pv 0) (pa_cons (pv 4) pa_nil)))) pa_nil)) pa_nil))))))))), ?_⟩
  have okw := wb.toWOk
  have m2 : many w 2 ≤ 30 * 30 := many_two okw few
  have il := ins_le w room
  have hvl : (splW w room part).2.length = w.2.length + (ins w room).length := splW_len
  have rfew : (rowsN w 1).length ≤ 1000 := by
    rw [rowsN_len okw]
    show many w 2 ≤ 1000
    omega
  refine Ev.go (ev_call (w, room, part) wb (ea3 (ev_var h1) (ev_var h2) (ev_var h3))) g0 fun vf S1 H1 g1 e1 hf => ?_
  obtain ⟨af, vs, rfl, f1, f2⟩ := hf
  obtain ⟨x1, x2, rfl, y1, y2⟩ := f2.two
  refine ⟨af, _, rfl, SqT.of (g1.k.le _ _ f1), rfl, _, _, rfl, _, _, rfl, rfl, ?_⟩
  dsimp only
  show tSeq (tAsg _ _) _ _ [some v1, some v2, some v3, some x1, some x2, none, none, none, none] H1
  have h1 := (D _).up e1.st h1
  have h3 := (D _).up e1.st h3
  refine q_newT g1 fun d H3 g3 e3 w3 => ?_
  refine q_for (ex_listD (xs := rowsN w 1) (enc := tI) (ev_call (w, 1) ⟨wb, by show (1 : Nat) ≤ 100; decide, by show many w 2 ≤ 1000; omega⟩ (ea2 (ev_var h1) ev_int))) g3 (fun i σ S' H' => ∃ (z : Option V), σ = [some v1, some v2, some v3, some x1, some x2, some (.ref d), z, none, none] ∧ Own md0 S H S' H' d (.dT (dEnc (fil (rowsN w 1) (splT w room part) i)))) (fun S4 H4 e4 => ⟨none, rfl, w3.step g3 e4⟩) ?_ ?_
  · rintro Sb i r σ2 S4 H4 x S5 H5 hi eb g5 e5 ⟨z, rfl, w4⟩ e6 hx
    have w5 := w4.step g5 e6
    have hr : r ∈ rowsN w 1 := List.mem_of_getElem? hi
    obtain ⟨a, b, ha, hb, hab, rfl⟩ := rows1 hr
    have h1 := (D _).up (eb.trans e5) h1
    have h3 := (D _).up (eb.trans e5) h3
    have y1 := (D _).up (eb.trans e5) y1
    have y2 := (D _).up (eb.trans e5) y2
    have nd := rowsN_nodup w 1
    show tSeq (sDPut _ _ _) _ _ [some v1, some v2, some v3, some x1, some x2, some (.ref d), some x, none, none] H5
    have lenb : (dEnc (fil (rowsN w 1) (splT w room part) i)).length < 100000 := Nat.lt_of_le_of_lt (Nat.le_trans (fil_len _ _ _) rfew) (by decide)
    have hn : lk (fil (rowsN w 1) (splT w room part) i) [a, b] = none := by
      refine lk_not (T := splT w room part) fun hm => ?_
      obtain ⟨m, hi2, e⟩ := List.getElem_of_mem hm
      rw [List.length_take] at hi2
      rw [List.getElem_take] at e
      obtain ⟨a2, b2⟩ := List.getElem?_eq_some_iff.mp hi
      have := (List.getElem_inj nd).mp (e.trans b2.symm)
      omega
    have e01 : Ev md0 S5 (tOp (rIxT K) (tVar 6) (tC (.int 0))) [some v1, some v2, some v3, some x1, some x2, some (.ref d), some x, none, none] (D (nI a)) := ev_ixTN (enc := nI) (a := 0) (x := a) (ev_var hx) ev_int rfl
    refine q_dputO (r := [a, b]) (a := a) e01 ha_var (ev_var hx) g5 w5 lenb fun S6 H6 g6 e7 w6 _ => ?_
    rw [put_dEnc_new hn] at w6
    have h1 := (D _).up e7 h1
    have h3 := (D _).up e7 h3
    have hx := (D _).up e7 hx
    have y1 := (D _).up e7 y1
    have y2 := (D _).up e7 y2
    have fin : ∀ (c : Nat) S7 H7, Gr md0 S H S7 H7 → Same S6 S7 → splT w room part [a, b] = c → Own md0 S H S7 H7 d (.dT (dEnc (fil (rowsN w 1) (splT w room part) i ++ [([a, b], c)]))) →
        Nx md0 S H Sb (fun i σ S' H' => ∃ (z : Option V), σ = [some v1, some v2, some v3, some x1, some x2, some (.ref d), z, none, none] ∧ Own md0 S H S' H' d (.dT (dEnc (fil (rowsN w 1) (splT w room part) i)))) (i + 1) [some v1, some v2, some v3, some x1, some x2, some (.ref d), some x, none, none] H7 := fun c S7 H7 g7 e8 hc w7 => ⟨S7, g7, e5.trans (e7.trans e8), some x, rfl, by
      have : fil (rowsN w 1) (splT w room part) (i + 1) = fil (rowsN w 1) (splT w room part) i ++ [([a, b], c)] := by
        unfold fil
        rw [List.take_add_one, hi, List.map_append, ← hc]
        rfl
      rw [this]
      exact w7⟩
    refine s_if (b := decide (b ∈ part)) (et_val (ev_inN (ev_ixTN (enc := nI) (a := 1) (x := b) (ev_var hx) ev_int rfl) (ev_var h3))) g6 (fun hc S7 H7 g7 e8 => ?_) (fun hc S7 H7 g7 e8 => ?_)
    · have hbp : b ∈ part := of_decide_eq_true hc
      have hin : a ∈ ins w room := spl_in so ha hab hbp
      have hne := cpL_ne (part := part) hin
      have w7 := w6.step g6 e8
      have h1 := (D _).up e8.st h1
      have hx := (D _).up e8.st hx
      have y1 := (D _).up e8.st y1
      have y2 := (D _).up e8.st y2
      have hcp : (cpL w room part a)[0]? = some (cp w room part a) := by
        unfold cp
        cases q : cpL w room part a with
        | nil => exact absurd q hne
        | cons c l => rfl
      refine s_dputO (r := [a, b]) (a := cp w room part a) (ev_ixLN (enc := nI) (a := 0) (xs := cpL w room part a) (Ev.eq (xl_D (xs := List.range (splE w room).length) (fun i => decide ((splE w room).getD i 0 = a) && decide (en (splW w room part) i = w.1)) nI (ex_enumLD (xs := splE w room) (enc := nI) (ev_var y2)) (by rw [List.length_range, splE_len]; omega) ?_) rfl) ev_int hcp) ha_var (ev_var hx) g7 w7 ?_ fun S8 H8 g8 e9 w8 _ => fin (cp w room part a) S8 H8 g8 (e8.st.trans e9) (if_pos hbp) ?_
      · rintro q S8 x9 e9 hq ⟨p, u, bb, rfl, hp, hbb, hu⟩
        have h1 := (D _).up e9 h1
        have hx := (D _).up e9 hx
        have y1 := (D _).up e9 y1
        obtain rfl := D_int hu
        have eb2 : (splE w room).getD q 0 = bb := by rw [List.getD_eq_getElem?_getD, hbb]; rfl
        rw [eb2]
        have hql : q < (splW w room part).2.length := by
          rw [hvl, ← splE_len]
          exact List.mem_range.mp hq
        refine ⟨_, eg_pair hp, rfl, et_and (et_val (ev_eqN (ev_var (Dd.int _)) (ev_ixTN (enc := nI) (a := 0) (x := a) (ev_var hx) ev_int rfl))) (fun _ => et_val (ev_eqN (ev_en (ev_var y1) (ev_var (Dd.int _)) hql) (ev_w0 (ev_var h1)))), fun _ => ev_var (Dd.int _)⟩
      · have := fil_len (rowsN w 1) (splT w room part) i
        unfold dEnc at this ⊢
        rw [List.length_map] at this
        rw [List.length_map, List.length_append]
        show _ + 1 < _
        omega
      · rw [put_dEnc_last hn] at w8
        exact w8
    · have hbp : b ∉ part := of_decide_eq_false hc
      exact fin a S7 H7 g7 e8.st (if_neg hbp) (w6.step g6 e8)
  · rintro σ2 S4 H4 g4 e4 ⟨z, rfl, w4⟩
    rw [fil_full] at w4
    refine s_frz w4 g4 trivial fun o H5 g5 e5 => ?_
    have hnew : (DctT (tb w 1 (splT w room part))).ok (L2.upd S4 d (.frz o (.dT (dEnc (tb w 1 (splT w room part)))))) (.ref d) := ⟨d, rfl, .inr ⟨o, upd_same⟩⟩
    have h1 := (D _).up (e4.trans e5) h1
    have y1 := (D _).up (e4.trans e5) y1
    have y2 := (D _).up (e4.trans e5) y2
    have okv := spl_ok so
    refine s_ret (P := CoT w (w.1 + 1) (w.2.length + (ins w room).length)) (Ev.conv (ev_tup (ts := [RdT w (splW w room part) (lst w 1 (splT w room part)).1 (lst w 1 (splT w room part)).2, AnyT]) (ea2 (ev_call (w, splW w room part, 1, splT w room part) ⟨okw, rfew, by show many w 2 ≤ 1000; omega⟩ (ea1 (ev_tup (ts := [D (wD w), D (wD (splW w room part)), D (nI 2), DctT (tb w 1 (splT w room part))]) (ea_cons (ev_var h1) (ea3 (ev_var y1) ev_int (ev_var hnew)))))) (ev_any (ev_call (splW w room part, w, 0, byA (splE w room)) ⟨okv, by show (rowsN (splW w room part) 0).length ≤ 1000; rw [rows_one]; omega, by show many (splW w room part) 1 ≤ 1000; rw [many_one okv]; omega⟩ (ea1 (ev_call (splW w room part, w, splE w room) ⟨by show (splE w room).length = (splW w room part).2.length; rw [splE_len, hvl], by show (splW w room part).2.length ≤ 1000; omega⟩ (ea3 (ev_var y1) (ev_var h1) (ev_var y2)))))))) fun S v hv => ?_) g5 k
    exact ⟨splW w room part, _, _, okv, Nat.le_refl _, Nat.le_of_eq hvl, (spl_rd so).least okw, lst_le _ _ _, hv⟩
end
end K49
end
section
set_option linter.all false
set_option maxRecDepth 100000
set_option maxHeartbeats 4000000
namespace K49
open PySem PySem.Spec PyProof.Rows L2 KR KD
theorem CoT.mono {w : W} {R A R' A' : Nat} (h1 : R ≤ R') (h2 : A ≤ A') {S : Hp} {x : V} (h : (CoT w R A).ok S x) : (CoT w R' A').ok S x := by
  obtain ⟨v, j, T', a, b, c, d, f, h⟩ := h
  exact ⟨v, j, T', a, Nat.le_trans b h1, Nat.le_trans c h2, d, f, h⟩
theorem JnA.Ok.rd {a : JnA} (h : a.Ok) : Rd a.w a.u a.out.1 a.out.2 ∧ a.out.1 ≤ a.j1 + a.j2 := by
  constructor
  · exact ((h.r1.least h.bw.toWOk).join (h.r2.least h.bv.toWOk)).least h.bw.toWOk
  · have e1 : a.ja ≤ a.j1 := lst_le _ _ _
    have e2 : a.jb ≤ a.j2 := lst_le _ _ _
    have e3 : a.out.1 ≤ a.ja + a.jb := lst_le _ _ _
    omega
def sp_z_code_step : Sp := spB (α := W × Nat × Nat) (fun a => Wb a.1 ∧ a.1.1 ≤ a.2.1 ∧ a.1.2.length ≤ a.2.2 ∧ a.2.2 ≤ 30) (fun a => [D (wD a.1), D (nI a.2.1), D (nI a.2.2)]) (fun a => CoT a.1 a.2.1 a.2.2)
/-- a reader of w, as the drawing of codes keeps it -/
def CdT (w : W) : KD.Ty := ⟨fun S x => ∃ v j T', WOk v ∧ v.1 ≤ 6 ∧ v.2.length ≤ 14 ∧ Rd w v j T' ∧ j ≤ 3 ∧ many w (j + 1) ≤ 200 ∧ (RdT w v j T').ok S x, fun e ⟨v, j, T', a, b, c, d, f, m, h⟩ => ⟨v, j, T', a, b, c, d, f, m, (RdT _ _ _ _).up e h⟩⟩
def sp_z_code : Sp := spB (α := W × Nat) (fun a => Wb a.1 ∧ a.1.1 ≤ 6 ∧ a.1.2.length ≤ 14 ∧ a.2 ≤ 100) (fun a => [D (wD a.1), Lt a.2]) (fun a => CdT a.1)
section
variable {P : Program} {w : World} {K : PySem.W.Frag} {mg : Str → Option Value} {base : Heap}
abbrev t_z_code_step : Stmt := top 64
theorem sc_z_code_step : FnScope ["_law_bag_here", "_law_w", "_law_rooms_most", "_law_arrows_most", "_law_act", "_law_pairs", "_law_one", "_law_other", "_law_room", "_law_part_here", "_law_rooms", "_law_arrows"] ["_law_bag_here", "_law_w", "_law_rooms_most", "_law_arrows_most"] (defScope t_z_code_step) := ⟨rfl, rfl, rfl, by decide +kernel, rfl, by decide +kernel, by decide +kernel⟩
theorem ok_z_code_step {f : Addr} {fd : FuncData} (F : Fun K "_law_code_step" "_law_code_step" t_z_code_step f fd) (T : Txt mg)
    (C_z_fold_codes : Df P w K mg base "_law_fold_codes" 4 ["_law_w", "_law_one", "_law_other"] sp_z_fold_codes)
    (C_z_folds : Df P w K mg base "_law_folds" 3 ["_law_w"] sp_z_folds)
    (C_z_ins : Df P w K mg base "_law_ins" 1 ["_law_w", "_law_room"] sp_z_ins)
    (C_z_named_codes : Df P w K mg base "_law_named_codes" 2 ["_law_w", "_law_rooms", "_law_arrows"] sp_z_named_codes)
    (C_z_naming : Df P w K mg base "_law_naming" 3 ["_law_bag_here", "_law_w"] sp_z_naming)
    (C_z_of : Df P w K mg base "_law_of" 2 ["_law_bag_here", "_law_some"] sp_z_of)
    (C_z_part : Df P w K mg base "_law_part" 3 ["_law_bag_here", "_law_w", "_law_room"] sp_z_part)
    (C_z_pull : Df P w K mg base "_law_pull" 1 ["_law_bag_here", "_law_many_here"] sp_z_pull)
    (C_z_split_codes : Df P w K mg base "_law_split_codes" 4 ["_law_w", "_law_room", "_law_part_here"] sp_z_split_codes)
    : FnOk P w K mg base CX0 5 f fd ["_law_bag_here", "_law_w", "_law_rooms_most", "_law_arrows_most"] sp_z_code_step := by
  obtain ⟨f_z_fold_codes, fd_z_fold_codes, G_z_fold_codes, m_z_fold_codes, k_z_fold_codes, b_z_fold_codes⟩ := C_z_fold_codes.ex
  obtain ⟨f_z_folds, fd_z_folds, G_z_folds, m_z_folds, k_z_folds, b_z_folds⟩ := C_z_folds.ex
  obtain ⟨f_z_ins, fd_z_ins, G_z_ins, m_z_ins, k_z_ins, b_z_ins⟩ := C_z_ins.ex
  obtain ⟨f_z_named_codes, fd_z_named_codes, G_z_named_codes, m_z_named_codes, k_z_named_codes, b_z_named_codes⟩ := C_z_named_codes.ex
  obtain ⟨f_z_naming, fd_z_naming, G_z_naming, m_z_naming, k_z_naming, b_z_naming⟩ := C_z_naming.ex
  obtain ⟨f_z_of, fd_z_of, G_z_of, m_z_of, k_z_of, b_z_of⟩ := C_z_of.ex
  obtain ⟨f_z_part, fd_z_part, G_z_part, m_z_part, k_z_part, b_z_part⟩ := C_z_part.ex
  obtain ⟨f_z_pull, fd_z_pull, G_z_pull, m_z_pull, k_z_pull, b_z_pull⟩ := C_z_pull.ex
  obtain ⟨f_z_split_codes, fd_z_split_codes, G_z_split_codes, m_z_split_codes, k_z_split_codes, b_z_split_codes⟩ := C_z_split_codes.ex
  refine F.ok sc_z_code_step (fun vs H Q E h => by obtain ⟨_, _, _, _, _, _, _, hv, _⟩ := h; exact hv.len) (fun cdv A outer s H vs Q E hr h => ?_)
  obtain ⟨b, l, ns, S, ⟨w, rm, am⟩, ⟨wb, d2, d3, d4⟩, o, hv, k⟩ := h
  dsimp only at d2 d3 d4 hv k
  obtain ⟨v1, v2, v3, v4, rfl, h1, h2, h3, h4⟩ := hv.four
  obtain rfl : v1 = .ref b := h1
  refine ⟨_, (pss_cons (ps_set (i := 4) sc_z_code_step.nd rfl (.inl rfl) (pe_call G_z_pull (hr.mono (by decide)) (by rfl) m_z_pull k_z_pull b_z_pull .nil pass0 (pa_cons (pv 0) (pa_cons pe_int pa_nil))))
    (pss_cons (ps_set (i := 5) sc_z_code_step.nd rfl (.inl rfl) (pe_call G_z_folds (hr.mono (by decide)) (by rfl) m_z_folds k_z_folds b_z_folds .nil pass0 (pa_cons (pv 1) pa_nil)))
    (pss_cons (ps_if (PW.pt (pw_and (pt_cmpR op_lt (pv 4) pe_int (nomark _)) (pw_and1 (pt_cmpR (op_neDK K hr.units) (pv 5) (pe_lst pa_nil) (nomark _)))))
      (pss_cons (ps_asg (pe_call G_z_of (hr.mono (by decide)) (by rfl) m_z_of k_z_of b_z_of .nil pass0 (pa_cons (pv 0) (pa_cons (pv 5) pa_nil))) (pg_tupK K (n := 2) rfl (pgs_cons (pg_name (i := 6) sc_z_code_step.nd rfl (.inl rfl)) (pgs_cons (pg_name (i := 7) sc_z_code_step.nd rfl (.inl rfl)) pgs_nil))))
      (pss_one (ps_ret (pe_call G_z_fold_codes (hr.mono (by decide)) (by rfl) m_z_fold_codes k_z_fold_codes b_z_fold_codes .nil pass0 (pa_cons (pv 1) (pa_cons (pv 6) (pa_cons (pv 7) pa_nil)))))))
      pss_nil)
    (pss_cons (ps_if (pt_cmpR op_lt (pv 4) pe_int (nomark _))
      (pss_cons (ps_set (i := 8) sc_z_code_step.nd rfl (.inl rfl) (pe_call G_z_pull (hr.mono (by decide)) (by rfl) m_z_pull k_z_pull b_z_pull .nil pass0 (pa_cons (pv 0) (pa_cons (pe_ix (ix_tupK K) (pv 1) pe_int (fun _ _ => rfl)) pa_nil))))
      (pss_cons (ps_set (i := 9) sc_z_code_step.nd rfl (.inl rfl) (pe_call G_z_part (hr.mono (by decide)) (by rfl) m_z_part k_z_part b_z_part .nil pass0 (pa_cons (pv 0) (pa_cons (pv 1) (pa_cons (pv 8) pa_nil)))))
      (pss_one (ps_if (PW.pt (pw_and (pt_cmpR (op_neDK K hr.units) (pv 9) (pe_lst pa_nil) (nomark _)) (pw_and (pt_cmpR op_lt (pe_ix (ix_tupK K) (pv 1) pe_int (fun _ _ => rfl)) (pv 2) (nomark _)) (pw_and1 (pt_cmpR op_le (pe_op op_add (pe_callB (call_lenK K) (by rfl) T.len PySem.boot_len (pa_cons (pe_ix (ix_tupK K) (pv 1) pe_int (fun _ _ => rfl)) pa_nil)) (pe_callB (call_lenK K) (by rfl) T.len PySem.boot_len (pa_cons (pe_call G_z_ins (hr.mono (by decide)) (by rfl) m_z_ins k_z_ins b_z_ins .nil pass0 (pa_cons (pv 1) (pa_cons (pv 8) pa_nil))) pa_nil))) (pv 3) (nomark _))))))
        (pss_one (ps_ret (pe_call G_z_split_codes (hr.mono (by decide)) (by rfl) m_z_split_codes k_z_split_codes b_z_split_codes .nil pass0 (pa_cons (pv 1) (pa_cons (pv 8) (pa_cons (pv 9) pa_nil))))))
        pss_nil))))
      pss_nil)
    (pss_cons (ps_asg (pe_call G_z_naming (hr.mono (by decide)) (by rfl) m_z_naming k_z_naming b_z_naming .nil pass0 (pa_cons (pv 0) (pa_cons (pv 1) pa_nil))) (pg_tupK K (n := 2) rfl (pgs_cons (pg_name (i := 10) sc_z_code_step.nd rfl (.inl rfl)) (pgs_cons (pg_name (i := 11) sc_z_code_step.nd rfl (.inl rfl)) pgs_nil))))
    (pss_one (ps_ret (pe_call G_z_named_codes (hr.mono (by decide)) (by rfl) m_z_named_codes k_z_named_codes b_z_named_codes .nil pass0 (pa_cons (pv 1) (pa_cons (pv 10) (pa_cons (pv 11) pa_nil))))))))))), ?_⟩
  have g0 : Gr (bagMd b l ns) S H S H := Gr.refl o
  have lw : w.2.length ≤ 100 := wb.le
  have fw : w.1 ≤ 50 := wb.few
  have wb : Wb w := wb
  refine q_asg (P := Lt 5) (ev_callB 5 ⟨by decide, by decide⟩ (ea2 ev_bag ev_int)) g0 fun v5 S1 H1 g1 e1 h5 => ?_
  obtain ⟨r, hr5, rfl⟩ := h5
  have h2 := (D _).up e1.st h2
  refine q_asg (P := FoldsT w) (ev_call w wb (ea1 (ev_var h2))) g1 fun v6 S2 H2 g2 e2 h6 => ?_
  obtain ⟨ps, hps, hpl, h6⟩ := h6
  have h2 := (D _).up e2.st h2
  have h3 := (D _).up (e1.st.trans e2.st) h3
  have h4 := (D _).up (e1.st.trans e2.st) h4
  refine q_mid (fun σ H' => ∃ (S' : Hp), σ = [some (.ref b), some v2, some v3, some v4, some (.int (r : Nat)), some v6, none, none, none, none, none, none] ∧ Gr (bagMd b l ns) S H S' H' ∧ Same S2 S') ?_ fun tail => ?_
  · rintro σ H' ⟨S3, rfl, g3, e3⟩
    have h2 := (D _).up e3 h2
    have h3 := (D _).up e3 h3
    have h4 := (D _).up e3 h4
    refine q_mid (fun σ H' => ∃ (S' : Hp) (y z : Option V), σ = [some (.ref b), some v2, some v3, some v4, some (.int (r : Nat)), some v6, none, none, y, z, none, none] ∧ Gr (bagMd b l ns) S H S' H' ∧ Same S3 S') ?_ fun tail2 => ?_
    · rintro σ H' ⟨S4, y, z, rfl, g4, e4⟩
      have h2 := (D _).up e4 h2
      have hnm : Ev (bagMd b l ns) S4 (tCall sp_z_naming [] E0 (tCons (tVar 0) (tCons (tVar 1) tNil))) [some (.ref b), some v2, some v3, some v4, some (.int (r : Nat)), some v6, none, none, y, z, none, none] (NmgT w) := ev_callB w wb (ea2 ev_bag (ev_var h2))
      refine hnm S4 _ _ (Same.refl _) g4.k fun v7 S5 H5 g5 h7 => ?_
      obtain ⟨rs, as, p1, p2, a, vs, rfl, f1, f2⟩ := h7
      obtain ⟨x, y, rfl, hx, hy⟩ := f2.two
      refine ⟨a, _, rfl, SqT.of (g5.k.le _ _ f1), rfl, _, _, rfl, _, _, rfl, rfl, ?_⟩
      dsimp only
      refine s_ret (P := CoT w rm am) (Ev.conv (ev_call (w, rs, as) ⟨wb, p1, p2⟩ (ea3 (ev_var ((D _).up g5.st h2)) (ev_var hx) (ev_var hy))) fun S v hv => CoT.mono d2 d3 hv) (g4.trans g5) k
    · refine q_if (b := decide ((r : Int) < 4)) (et_val (ev_opB (ev_var (Dd.int _)) ev_int)) g3 (fun hq S4 H4 g4 e4 => ?_) (fun hq S4 H4 g4 e4 => tail2 _ _ ⟨S4, none, none, rfl, g4, e4.st⟩)
      have h2 := (D _).up e4.st h2
      have h3 := (D _).up e4.st h3
      have h4 := (D _).up e4.st h4
      refine q_asg (P := Lt w.1) (ev_callB w.1 ⟨wb.pos, by omega⟩ (ea2 ev_bag (ev_w0 (ev_var h2)))) g4 fun v7 S5 H5 g5 e5 h7 => ?_
      obtain ⟨room, hroom, rfl⟩ := h7
      have h2 := (D _).up e5.st h2
      refine q_asg (P := PartT w room) (ev_callB (w, room) wb (ea3 ev_bag (ev_var h2) (ev_var (Dd.int _)))) g5 fun v8 S6 H6 g6 e6 h8 => ?_
      obtain ⟨part, hp, h8⟩ := h8
      have h2 := (D _).up e6.st h2
      have h3 := (D _).up (e5.st.trans e6.st) h3
      have h4 := (D _).up (e5.st.trans e6.st) h4
      refine s_if (b := !part.isEmpty && (decide (w.1 < rm) && decide (w.2.length + (ins w room).length ≤ am))) (et_and (et_val (Ev.eq (ev_neD (ev_var h8) (ev_lstD (ds := []) ea_nil) (shp_lI part).shaped shp_nil.shaped) ?_)) fun _ => et_and (et_val (Ev.eq (ev_opB (ev_w0 (ev_var h2)) (ev_var h3)) ?_)) fun _ => et_val (Ev.eq (ev_opB (ev_opI (g := fun i j => i + j) (ev_lenDT (ev_w1 (ev_var h2))) (ev_lenDL (ev_call (w, room) (Nat.le_trans lw (by decide)) (ea2 (ev_var h2) (ev_var (Dd.int _)))))) (ev_var h4)) ?_)) g6 (fun hq2 S7 H7 g7 e7 => ?_) (fun hq2 S7 H7 g7 e7 => tail2 _ _ ⟨S7, _, _, rfl, g7, e4.st.trans (e5.st.trans (e6.st.trans e7.st))⟩)
      · show PyData.bool (!PyData.eqv (.list (part.map nI)) (.list [])) = _
        rw [eqv_nilR]
        cases part <;> rfl
      · show PyData.bool (decide ((w.1 : Int) < (rm : Int))) = _
        congr 1
        exact decide_eq_decide.mpr (by omega)
      · show PyData.bool (decide ((((w.2.map pD).length : Nat) : Int) + ((((ins w room).map nI).length : Nat) : Int) ≤ (am : Int))) = _
        rw [List.length_map, List.length_map]
        congr 1
        exact decide_eq_decide.mpr (by omega)
      rw [Bool.and_eq_true, Bool.and_eq_true] at hq2
      obtain ⟨q1, q2, q3⟩ := hq2
      have ne : part ≠ [] := by
        rintro rfl
        cases q1
      have q2 : w.1 < rm := by simpa using q2
      have q3 : w.2.length + (ins w room).length ≤ am := by simpa using q3
      have so : SplOk w room part := ⟨wb.toWOk, hroom, hp.sub, ne, hp.few ne⟩
      refine s_ret (P := CoT w rm am) (Ev.conv (ev_call (w, room, part) ⟨wb, by show w.2.length ≤ 30; omega, so⟩ (ea3 (ev_var ((D _).up e7.st h2)) (ev_var (Dd.int _)) (ev_var ((D _).up e7.st h8)))) fun S v hv => CoT.mono q2 q3 hv) g7 k
  · refine q_if (b := decide ((r : Int) < 2) && !PyData.eqv (psD ps) (.list [])) (et_and (et_val (ev_opB (ev_var (Dd.int _)) ev_int)) fun _ => et_val (ev_neD (ev_var h6) (ev_lstD (ds := []) ea_nil) (shp_psD ps).shaped shp_nil.shaped)) g2 (fun hq S3 H3 g3 e3 => ?_) (fun hq S3 H3 g3 e3 => tail _ _ ⟨S3, rfl, g3, e3.st⟩)
    have h2 := (D _).up e3.st h2
    have h6 := (D _).up e3.st h6
    have hne : 0 < ps.length := by
      rw [Bool.and_eq_true] at hq
      have q := hq.2
      have e : PyData.eqv (psD ps) (.list []) = (ps.map pD).isEmpty := eqv_nilR _
      rw [e] at q
      cases ps with
      | nil => cases q
      | cons p ps => exact Nat.succ_pos _
    have hof : Ev (bagMd b l ns) S3 (tCall sp_z_of [] E0 (tCons (tVar 0) (tCons (tVar 5) tNil))) [some (.ref b), some v2, some v3, some v4, some (.int (r : Nat)), some v6, none, none, none, none, none, none] (OneOf ps) := ev_callB ps ⟨hne, by omega⟩ (ea2 ev_bag (ev_var h6))
    refine hof S3 _ _ (Same.refl _) g3.k fun v7 S5 H5 g5 h7 => ?_
    obtain ⟨p, hp, h7⟩ := h7
    obtain ⟨a, vs, rfl, f1, f2⟩ := D_tup.1 h7
    obtain ⟨x, y, rfl, hx, hy⟩ := All.two (P := D (nI p.1)) (P1 := D (nI p.2)) f2
    refine ⟨a, _, rfl, SqT.of (g5.k.le _ _ f1), rfl, _, _, rfl, _, _, rfl, rfl, ?_⟩
    dsimp only
    refine s_ret (P := CoT w rm am) (Ev.conv (ev_call (w, p.1, p.2) ⟨wb, by show w.2.length ≤ 30; omega, hps p hp⟩ (ea3 (ev_var ((D _).up g5.st h2)) (ev_var hx) (ev_var hy))) fun S v hv => CoT.mono d2 d3 hv) (g3.trans g5) k
abbrev t_z_code : Stmt := top 65
theorem sc_z_code : FnScope ["_law_bag_here", "_law_w", "_law_times", "_law_f", "_law_k", "_law_there", "_law_back"] ["_law_bag_here", "_law_w", "_law_times"] (defScope t_z_code) := ⟨rfl, rfl, rfl, by decide +kernel, rfl, by decide +kernel, by decide +kernel⟩
theorem ok_z_code {f : Addr} {fd : FuncData} (F : Fun K "_law_code" "_law_code" t_z_code f fd) (T : Txt mg)
    (C_z_code_step : Df P w K mg base "_law_code_step" 5 ["_law_bag_here", "_law_w", "_law_rooms_most", "_law_arrows_most"] sp_z_code_step)
    (C_z_join : Df P w K mg base "_law_join" 4 ["_law_f", "_law_g"] sp_z_join)
    (C_z_many : Df P w K mg base "_law_many" 2 ["_law_w", "_law_length"] sp_z_many)
    (C_z_same_reader : Df P w K mg base "_law_same_reader" 1 ["_law_w"] sp_z_same_reader)
    : FnOk P w K mg base CX0 6 f fd ["_law_bag_here", "_law_w", "_law_times"] sp_z_code := by
  obtain ⟨f_z_code_step, fd_z_code_step, G_z_code_step, m_z_code_step, k_z_code_step, b_z_code_step⟩ := C_z_code_step.ex
  obtain ⟨f_z_join, fd_z_join, G_z_join, m_z_join, k_z_join, b_z_join⟩ := C_z_join.ex
  obtain ⟨f_z_many, fd_z_many, G_z_many, m_z_many, k_z_many, b_z_many⟩ := C_z_many.ex
  obtain ⟨f_z_same_reader, fd_z_same_reader, G_z_same_reader, m_z_same_reader, k_z_same_reader, b_z_same_reader⟩ := C_z_same_reader.ex
  refine F.ok sc_z_code (fun vs H Q E h => by obtain ⟨_, _, _, _, _, _, _, hv, _⟩ := h; exact hv.len) (fun cdv A outer s H vs Q E hr h => ?_)
  obtain ⟨b, l, ns, S, ⟨w, tm⟩, ⟨wb, d2, d3, d4⟩, o, hv, k⟩ := h
  dsimp only at d2 d3 d4 hv k
  obtain ⟨v1, v2, v3, rfl, h1, h2, h3⟩ := hv.three
  obtain rfl : v1 = .ref b := h1
  refine ⟨_, (pss_cons (ps_set (i := 3) sc_z_code.nd rfl (.inl rfl) (pe_call G_z_same_reader (hr.mono (by decide)) (by rfl) m_z_same_reader k_z_same_reader b_z_same_reader .nil pass0 (pa_cons (pv 1) pa_nil)))
    (pss_cons (ps_for PassesOwn.never rfl (pi_range1 (by rfl) T.range (pa_cons (pv 2) pa_nil)) (pg_name (i := 4) sc_z_code.nd rfl (.inl rfl))
      (pss_cons (ps_asg (pe_call G_z_code_step (hr.mono (by decide)) (by rfl) m_z_code_step k_z_code_step b_z_code_step .nil pass0 (pa_cons (pv 0) (pa_cons (pe_ix (ix_tupK K) (pv 3) pe_int (fun _ _ => rfl)) (pa_cons pe_int (pa_cons pe_int pa_nil))))) (pg_tupK K (n := 2) rfl (pgs_cons (pg_name (i := 5) sc_z_code.nd rfl (.inl rfl)) (pgs_cons (pg_name (i := 6) sc_z_code.nd rfl (.inl rfl)) pgs_nil))))
      (pss_one (ps_if (PW.pt (pw_and (pt_cmpR op_le (pe_op op_sub (pe_op op_add (pe_ix (ix_tupK K) (pv 3) pe_int (fun _ _ => rfl)) (pe_ix (ix_tupK K) (pv 5) pe_int (fun _ _ => rfl))) pe_int) pe_int (nomark _)) (pw_and1 (pt_cmpR op_le (pe_call G_z_many (hr.mono (by decide)) (by rfl) m_z_many k_z_many b_z_many .nil pass0 (pa_cons (pv 1) (pa_cons (pe_op op_sub (pe_op op_add (pe_ix (ix_tupK K) (pv 3) pe_int (fun _ _ => rfl)) (pe_ix (ix_tupK K) (pv 5) pe_int (fun _ _ => rfl))) pe_int) pa_nil))) pe_int (nomark _)))))
        (pss_one (ps_set (i := 3) sc_z_code.nd rfl (.inl rfl) (pe_call G_z_join (hr.mono (by decide)) (by rfl) m_z_join k_z_join b_z_join .nil pass0 (pa_cons (pv 3) (pa_cons (pv 5) pa_nil)))))
        pss_nil))))
    (pss_one (ps_ret (pv 3))))), ?_⟩
  have g0 : Gr (bagMd b l ns) S H S H := Gr.refl o
  have wb : Wb w := wb
  have okw := wb.toWOk
  obtain ⟨n, hn, rfl⟩ := h3
  refine q_asg (P := CdT w) (Ev.conv (ev_call w (by show w.2.length ≤ 1000; omega) (ea1 (ev_var h2))) fun S v hv => ⟨w, 0, _, okw, d2, d3, rd_same w, Nat.zero_le _, by rw [many_one okw]; omega, hv⟩) g0 fun v4 S1 H1 g1 e1 h4 => ?_
  have h2 := (D _).up e1.st h2
  refine q_for (xs := List.range n) (ex_rng1 (ev_var (Dd.int _)) (by omega)) g1 (fun i σ S' H' => ∃ (u : V) (x y z : Option V), σ = [some (.ref b), some v2, some (.int (n : Nat)), some u, x, y, z] ∧ (CdT w).ok S' u) (fun S2 H2 e2 => ⟨v4, none, none, none, rfl, (CdT w).up e2.st h4⟩) ?_ ?_
  · rintro Sb i a σ1 S1 H1 x S2 H2 hi eb g2 e2 ⟨u, x0, y, z, rfl, hu⟩ e3 rfl
    obtain ⟨v, j, T1, okv, rv, av, rd1, hj, hm, hu⟩ := hu
    have hu := (RdT _ _ _ _).up e3.st hu
    have h2 := (D _).up (eb.trans e2) h2
    have bv : Wb v := ⟨okv, by omega, by omega⟩
    have hst : Ev (bagMd b l ns) S2 (tCall sp_z_code_step [] E0 (tCons (tVar 0) (tCons (tOp (rIxT K) (tVar 3) (tC (.int 1))) (tCons (tC (.int 6)) (tCons (tC (.int 14)) tNil))))) [some (.ref b), some v2, some (.int (n : Nat)), some u, some (.int (a : Nat)), y, z] (CoT v 6 14) := ev_callB (v, 6, 14) ⟨bv, rv, av, by show (14 : Nat) ≤ 30; decide⟩ (ea_cons ev_bag (ea3 (ev_ixT (P := D (wD v)) (ev_var hu) ev_int rfl rfl) ev_int ev_int))
    refine hst S2 H2 _ (Same.refl _) g2.k fun v7 S5 H5 g5 h7 => ?_
    obtain ⟨v', j2, T2, okv', rv', av', rd2, hj2, q, vs, rfl, f1, f2⟩ := h7
    obtain ⟨y5, y6, rfl, hx, hy⟩ := f2.two
    refine ⟨q, _, rfl, SqT.of (g5.k.le _ _ f1), rfl, _, _, rfl, _, _, rfl, rfl, ?_⟩
    dsimp only
    show tIfS _ _ _ _ [some (.ref b), some v2, some (.int (n : Nat)), some u, some (.int (a : Nat)), some y5, some y6] _
    have hu := (RdT _ _ _ _).up g5.st hu
    have h2 := (D _).up g5.st h2
    have len : ∀ {S' : Hp}, Same S5 S' → Ev (bagMd b l ns) S' (tOp (rI0 fun i j => .int (i - j)) (tOp (rI0 fun i j => .int (i + j)) (tOp (rIxT K) (tVar 3) (tC (.int 2))) (tOp (rIxT K) (tVar 5) (tC (.int 2)))) (tC (.int 1))) [some (.ref b), some v2, some (.int (n : Nat)), some u, some (.int (a : Nat)), some y5, some y6] (D (nI (j + j2 + 1))) := fun {S'} e =>
      Ev.eq (ev_opI (g := fun i j => i - j) (ev_opI (g := fun i j => i + j) (ev_ixT (P := D (nI (j + 1))) (ev_var ((RdT _ _ _ _).up e hu)) ev_int rfl rfl) (ev_ixT (P := D (nI (j2 + 1))) (ev_var ((RdT _ _ _ _).up e hx)) ev_int rfl rfl)) ev_int) (by show PyData.int _ = PyData.int _; congr 1; omega)
    refine s_if (b := decide (j + j2 + 1 ≤ 4) && decide (many w (j + j2 + 1) ≤ 200)) (et_and (et_val (Ev.eq (ev_opB (len (Same.refl _)) ev_int) (by show PyData.bool _ = PyData.bool _; congr 1; exact decide_eq_decide.mpr (by omega)))) fun _ => et_val (Ev.eq (ev_opB (ev_call (w, j + j2 + 1) ⟨wb, by show j + j2 + 1 ≤ 100; omega⟩ (ea2 (ev_var h2) (len (Same.refl _)))) ev_int) (by show PyData.bool _ = PyData.bool _; congr 1; exact decide_eq_decide.mpr (by show (many w (j + j2 + 1) : Int) ≤ 200 ↔ many w (j + j2 + 1) ≤ 200; omega)))) (g2.trans g5) (fun hq S6 H6 g6 e6 => ?_) (fun hq S6 H6 g6 e6 => ⟨S6, g6, e2.trans (g5.st.trans e6.st), u, _, _, _, rfl, v, j, T1, okv, rv, av, rd1, hj, hm, (RdT _ _ _ _).up e6.st hu⟩)
    rw [Bool.and_eq_true, decide_eq_true_eq, decide_eq_true_eq] at hq
    obtain ⟨q1, q2⟩ := hq
    have mv : many v (j2 + 1) ≤ 14 * 14 := Nat.le_trans (many_mono okv (show j2 + 1 ≤ 2 by omega)) (many_two okv av)
    have jo : JnA.Ok ⟨w, v, v', j, j2, T1, T2⟩ := ⟨wb, bv, rd1, rd2, by show many w (j + j2 + 1) ≤ 1000; omega, by show many v (j2 + 1) ≤ 1000; omega, by show j + j2 ≤ 50; omega⟩
    obtain ⟨o1, o2⟩ := jo.rd
    have o2 : (JnA.out ⟨w, v, v', j, j2, T1, T2⟩).1 ≤ j + j2 := o2
    refine s_asg (ev_call ⟨w, v, v', j, j2, T1, T2⟩ jo (ea2 (ev_var ((RdT _ _ _ _).up e6.st hu)) (ev_var ((RdT _ _ _ _).up e6.st hx)))) g6 fun v9 S7 H7 g7 e8 h9 => ⟨S7, g7, e2.trans (g5.st.trans (e6.st.trans e8.st)), v9, _, _, _, rfl, v', _, _, okv', rv', av', o1, by omega, Nat.le_trans (many_mono okw (by omega)) q2, h9⟩
  · rintro σ1 S1 H1 g1 e1 ⟨u, x, y, z, rfl, hu⟩
    exact s_ret (P := CdT w) (ev_var hu) g1 k
end
end K49
end
section
set_option linter.all false
set_option maxRecDepth 100000
set_option maxHeartbeats 4000000
namespace K49
open PySem PySem.Spec PyProof.Rows L2 KR KD KB
section
variable {md : Md} {S H S' H' S1 H1 S0 H0 : Hp} {K : PySem.W.Frag} {σ : L2.St} {ta tb' te tx : TE} {P : KD.Ty} {D' : Ends} {tz : TS}
theorem all_lt {m : Nat} : ∀ {n : Nat} {vs : List V}, KD.All S vs ((List.range n).map fun _ => Lt m) → ∃ rs : List Nat, rs.length = n ∧ (∀ r ∈ rs, r < m) ∧ vs = rs.map fun r : Nat => V.int (r : Nat) := by
  have key : ∀ (l : List Nat) {vs : List V}, KD.All S vs (l.map fun _ => Lt m) → ∃ rs : List Nat, rs.length = l.length ∧ (∀ r ∈ rs, r < m) ∧ vs = rs.map fun r : Nat => V.int (r : Nat) := by
    intro l
    induction l with
    | nil =>
      intro vs h
      cases h
      exact ⟨[], rfl, (fun r hr => by cases hr), rfl⟩
    | cons a l ih =>
      intro vs h
      cases h with
      | cons h1 h2 =>
        obtain ⟨rs, a1, a2, rfl⟩ := ih h2
        obtain ⟨r, hr, rfl⟩ := h1
        exact ⟨r :: rs, by rw [List.length_cons, List.length_cons, a1], fun q hq => by
          rcases List.mem_cons.mp hq with rfl | hq
          · exact hr
          · exact a2 q hq, rfl⟩
  intro n vs h
  obtain ⟨rs, a1, a2, a3⟩ := key _ h
  exact ⟨rs, by rw [a1, List.length_range], a2, a3⟩
/-- sorted(set(xs)) -/
theorem ev_sortSet {w : World} {rs : List Nat} (hl : rs.length ≤ 60) (h : Ev md S te σ (D (lI rs))) : Ev md S (tCB (rSortedSet w) (tCons (tCB (rSetI K w) (tCons te tNil)) tNil)) σ ⟨fun S v => ∃ ss : List Nat, ss.Nodup ∧ (∀ x, x ∈ ss ↔ x ∈ rs) ∧ (D (lI ss)).ok S v, fun e ⟨ss, a, b, c⟩ => ⟨ss, a, b, (D _).up e c⟩⟩ := fun S1 H R e o k => by
  refine ea1 h S1 H (fun vs H1 => rSetI K w vs H1 fun v H2 => rSortedSet w [v] H2 R) e o fun vs S2 H2 g2 hv => ?_
  obtain ⟨v, rfl, hw⟩ := hv.one
  rw [lI_ints] at hw
  obtain ⟨a, xs, rfl, e1, e2⟩ := D_lst.1 hw
  have := ints_of (KD.All.toD e2)
  subst this
  refine ⟨a, _, rfl, SqL.of (g2.k.le _ _ e1), by rw [List.length_map]; omega, fun p c hp hc => ?_⟩
  rw [List.length_map] at hc
  have n := g2.k.newL (o := SetO w p (fun j => decide (j ∈ rs.map fun n : Nat => (n : Int))) c) hp
  refine ⟨p, _, c, rfl, upd_same, by omega, fun ns q hs hm hlen hq => ?_⟩
  have n2 := n.k.new (o := .lst (ns.map V.int)) hq
  -- the members are naturals
  have hns : ns = (ns.map Int.toNat).map fun n : Nat => (n : Int) := by
    rw [List.map_map]
    conv => lhs; rw [← List.map_id ns]
    refine List.map_congr_left fun z hz => ?_
    have := of_decide_eq_true ((hm z).mp hz)
    obtain ⟨b, _, rfl⟩ := List.mem_map.mp this
    rfl
  refine k _ _ _ ((g2.trans n).trans n2) ⟨ns.map Int.toNat, ?_, fun x => ?_, ?_⟩
  · have nd : ns.Nodup := hs.imp fun h => Int.ne_of_lt h
    rw [hns] at nd
    exact List.Pairwise.of_map _ (fun a b h e => h (by rw [e])) nd
  · constructor
    · intro hx
      obtain ⟨z, hz, rfl⟩ := List.mem_map.mp hx
      have := of_decide_eq_true ((hm z).mp hz)
      obtain ⟨b, hb, rfl⟩ := List.mem_map.mp this
      exact hb
    · intro hx
      have : (x : Int) ∈ ns := (hm x).mpr (decide_eq_true (List.mem_map.mpr ⟨x, hx, rfl⟩))
      exact List.mem_map.mpr ⟨_, this, rfl⟩
  · rw [lI_ints, ← hns]
    exact Dd.lst upd_same (DdAll.ints _)
/-- xs.append(e), where e reads another list of our own -/
theorem s_appP {l l' : Addr} {xs : List V} {o' : HO} (ha : ∀ (H : Hp) (R : VK), R (.ref l) H → ta σ H R) (w' : Own md S0 H0 S H l' o') (h : Ev md (L2.upd S l' o') te σ P) (g : Gr md S0 H0 S H) (w : Own md S0 H0 S H l (.lst xs)) (hz : xs.length < 100000) (ne : l' ≠ l)
    (k : ∀ v S2 S' H', Gr md S0 H0 S' H' → Same S S' → Own md S0 H0 S' H' l (.lst (xs ++ [v])) → Own md S0 H0 S' H' l' o' → P.ok S2 v → D'.nx σ H') : tDrop (tBM K "list" rAppend ta (tCons te tNil)) D' σ H :=
  ha H _ ⟨.inl ⟨rfl, xs, SqL.of w.h⟩, w'.peek g h fun v S2 S' H' g1 g2 w2' hv => by
    have w2 := w.step g g2
    obtain ⟨a, b⟩ := w2.upd (o' := .lst (xs ++ [v])) g1
    exact ⟨l, xs, v, rfl, rfl, w2.h, Nat.lt_of_lt_of_le hz (by decide), k v S2 S' _ a g2.st b (w2'.other ne) hv⟩⟩
theorem any_rows (ts : List (List Nat)) (k : List Nat) : ((ts.map tI).any fun z => PyData.eqv z (tI k)) = decide (k ∈ ts) := by
  induction ts with
  | nil => rfl
  | cons t ts ih =>
    rw [List.map_cons, List.any_cons, ih, eqv_tI]
    by_cases c : t = k
    · subst c
      simp
    · have : ¬ k = t := fun z => c z.symm
      simp [c, this]
theorem idx_rows {ts : List (List Nat)} {k : List Nat} (h : k ∈ ts) : ts[ts.idxOf k]? = some k ∧ ∀ m z, m < ts.idxOf k → ts[m]? = some z → z ≠ k := by
  induction ts with
  | nil => cases h
  | cons t ts ih =>
    by_cases c : t = k
    · subst c
      have : (t :: ts).idxOf t = 0 := by simp
      rw [this]
      exact ⟨rfl, fun m z hm => absurd hm (Nat.not_lt_zero _)⟩
    · have e : (t :: ts).idxOf k = ts.idxOf k + 1 := by
        rw [List.idxOf_cons]
        have : (t == k) = false := by simpa using c
        rw [this]
        rfl
      obtain ⟨i1, i2⟩ := ih ((List.mem_cons.mp h).resolve_left fun z => c z.symm)
      rw [e]
      refine ⟨i1, fun m z hm hz => ?_⟩
      cases m with
      | zero =>
        cases hz
        exact c
      | succ m => exact i2 m z (by omega) hz
theorem ev_idxRows {ts : List (List Nat)} {k : List Nat} (h1 : Ev md S ta σ (D (rsD ts))) (h2 : Ev md S tb' σ (D (tI k))) (hm : k ∈ ts) : Ev md S (tBM K "list" (rIndexD K) ta (tCons tb' tNil)) σ (D (nI (ts.idxOf k))) := fun S1 H R e o kk =>
  h1 S1 H _ e o fun x S2 H2 g2 hx => by
    have hx' : Dd S2 x (rsD ts) := hx
    have hx2 := D_lst.1 hx
    obtain ⟨p, xs, rfl, e1, e2⟩ := hx2
    refine ⟨.inl ⟨rfl, _, SqL.of (g2.k.le _ _ e1)⟩, ea1 h2 S2 H2 _ (e.trans g2.st) g2.k fun vs S3 H3 g3 hv => ?_⟩
    obtain ⟨v, rfl, hw⟩ := hv.one
    obtain ⟨i1, i2⟩ := idx_rows hm
    refine ⟨p, v, tI k, ts.map tI, ts.idxOf k, tI k, rfl, rfl, Dd.dp (g3.st.trans g3.k.le) _ hx', Dd.dp g3.k.le _ hw, ?_, (shp_tI k).shaped, by rw [List.getElem?_map, i1]; rfl, eqv_same (shp_tI k), fun m z' hm' hz => ?_, kk _ S3 H3 (g2.trans g3) (Dd.int _)⟩
    · exact (shp_lm (fun t => shp_tI t) ts).shaped
    · rw [List.getElem?_map] at hz
      obtain ⟨z, hz2, rfl⟩ := Option.map_eq_some_iff.mp hz
      rw [eqv_tI]
      exact decide_eq_false (i2 m z hm' hz2)
end
/-- int(x == 0) -/
theorem ev_int01 {md : Md} {S : Hp} {σ : L2.St} {te : TE} {m : Nat} (h : Ev md S te σ (Lt m)) : Ev md S (tCB (fun xs H Q => (∃ i, xs = [V.int i] ∧ Q (.int i) H) ∨ ∃ k, xs = [V.bl k] ∧ Q (.int (if k then 1 else 0)) H) (tCons (tOp rEq te (tC (.int 0))) tNil)) σ (Lt 2) :=
  ev_cb (ea1 (P := ⟨fun _ v => ∃ b, v = .bl b, fun _ h => h⟩) fun S1 H R a o k => h S1 H _ a o fun v S2 H2 g hv => by
    obtain ⟨r, _, rfl⟩ := hv
    exact ⟨rfl, k _ S2 H2 g ⟨_, rfl⟩⟩) fun S1 vs e hv H R b k => by
    obtain ⟨v, rfl, c, rfl⟩ := hv.one
    refine .inr ⟨c, rfl, k _ _ _ (Gr.refl b) ?_⟩
    cases c
    · exact ⟨0, by decide, rfl⟩
    · exact ⟨1, by decide, rfl⟩
/-- pairs so far: triples of begin, end, tint -/
structure BlI (w : W) (rs ss : List Nat) (ts : List (List Nat)) (as : List Nat) (i : Nat) : Prop where
  al : as.length = i
  tl : ts.length ≤ i
  sh : ∀ t ∈ ts, ∃ x y z, t = [x, y, z] ∧ x < ss.length ∧ y < ss.length
  at_ : ∀ a, a < i → ∃ z, ts[as.getD a 0]? = some [ss.idxOf (rs.getD (be w a) 0), ss.idxOf (rs.getD (en w a) 0), z]
theorem BlI.next {w : W} {rs ss : List Nat} {ts : List (List Nat)} {as : List Nat} {i z : Nat} (B : BlI w rs ss ts as i) (ts' : List (List Nat)) (ht : ts' = ts ∨ ts' = ts ++ [[ss.idxOf (rs.getD (be w i) 0), ss.idxOf (rs.getD (en w i) 0), z]])
    (hm : [ss.idxOf (rs.getD (be w i) 0), ss.idxOf (rs.getD (en w i) 0), z] ∈ ts') (b1 : ss.idxOf (rs.getD (be w i) 0) < ss.length) (b2 : ss.idxOf (rs.getD (en w i) 0) < ss.length) : BlI w rs ss ts' (as ++ [ts'.idxOf [ss.idxOf (rs.getD (be w i) 0), ss.idxOf (rs.getD (en w i) 0), z]]) (i + 1) := by
  have hl : ts'.length ≤ ts.length + 1 := by
    rcases ht with rfl | rfl
    · omega
    · rw [List.length_append, List.length_singleton]
      omega
  have hold : ∀ (j : Nat) t, ts[j]? = some t → ts'[j]? = some t := fun j t h => by
    rcases ht with rfl | rfl
    · exact h
    · rw [List.getElem?_append_left (List.getElem?_eq_some_iff.mp h).1]
      exact h
  refine ⟨by rw [List.length_append, B.al]; rfl, by have := B.tl; omega, fun t h => ?_, fun a ha => ?_⟩
  · rcases ht with rfl | rfl
    · exact B.sh t h
    · rcases List.mem_append.mp h with h | h
      · exact B.sh t h
      · rw [List.mem_singleton] at h
        exact ⟨_, _, z, h, b1, b2⟩
  · by_cases c : a < i
    · obtain ⟨y, hy⟩ := B.at_ a c
      refine ⟨y, ?_⟩
      have : (as ++ [ts'.idxOf [ss.idxOf (rs.getD (be w i) 0), ss.idxOf (rs.getD (en w i) 0), z]]).getD a 0 = as.getD a 0 := by
        rw [List.getD_eq_getElem?_getD, List.getElem?_append_left (by rw [B.al]; exact c), ← List.getD_eq_getElem?_getD]
      rw [this]
      exact hold _ _ hy
    · have : a = i := by omega
      subst this
      refine ⟨z, ?_⟩
      have : (as ++ [ts'.idxOf [ss.idxOf (rs.getD (be w a) 0), ss.idxOf (rs.getD (en w a) 0), z]]).getD a 0 = ts'.idxOf [ss.idxOf (rs.getD (be w a) 0), ss.idxOf (rs.getD (en w a) 0), z] := by
        rw [List.getD_eq_getElem?_getD, List.getElem?_append_right (by rw [B.al]; exact Nat.le_refl _), B.al, Nat.sub_self]
        rfl
      rw [this]
      exact (idx_rows hm).1
def bluW (ss : List Nat) (ts : List (List Nat)) : W := (ss.length, ts.map fun t => (t.getD 0 0, t.getD 1 0))
theorem BlI.ok {w : W} {rs ss : List Nat} {ts : List (List Nat)} {as : List Nat} (B : BlI w rs ss ts as w.2.length) (okw : WOk w) (rl : rs.length = w.1) (nd : ss.Nodup) (mem : ∀ x, x ∈ ss ↔ x ∈ rs) (more : List (List Nat)) (hmore : ∀ t ∈ more, ∃ x y z, t = [x, y, z] ∧ x < ss.length ∧ y < ss.length) : BluOk w (bluW ss (ts ++ more)) rs ss as := by
  have hat : ∀ a, a < w.2.length → ∃ z, (ts ++ more)[as.getD a 0]? = some [ss.idxOf (rs.getD (be w a) 0), ss.idxOf (rs.getD (en w a) 0), z] := fun a ha => by
    obtain ⟨z, hz⟩ := B.at_ a ha
    exact ⟨z, by rw [List.getElem?_append_left (List.getElem?_eq_some_iff.mp hz).1]; exact hz⟩
  refine ⟨okw, rl, nd, mem, rfl, fun a ha => ?_, fun a ha => ?_, fun a ha => ?_⟩
  · obtain ⟨z, hz⟩ := hat a ha
    show _ < (List.map _ _).length
    rw [List.length_map]
    exact (List.getElem?_eq_some_iff.mp hz).1
  · obtain ⟨z, hz⟩ := hat a ha
    show (List.map (fun t : List Nat => (t.getD 0 0, t.getD 1 0)) (ts ++ more)).getD (as.getD a 0) (0, 0) = _
    rw [List.getD_eq_getElem?_getD, List.getElem?_map, hz]
    rfl
  · have ha' : a < (ts ++ more).length := by
      have : a < (List.map (fun t : List Nat => (t.getD 0 0, t.getD 1 0)) (ts ++ more)).length := ha
      rw [List.length_map] at this
      exact this
    have hg := List.getElem?_eq_getElem ha'
    have hm : (ts ++ more)[a] ∈ ts ++ more := List.getElem_mem ha'
    obtain ⟨x, y, z, e, h1, h2⟩ : ∃ x y z, (ts ++ more)[a] = [x, y, z] ∧ x < ss.length ∧ y < ss.length := by
      rcases List.mem_append.mp hm with h | h
      · exact B.sh _ h
      · exact hmore _ h
    have hp : pr (bluW ss (ts ++ more)) a = (x, y) := by
      show (List.map (fun t : List Nat => (t.getD 0 0, t.getD 1 0)) (ts ++ more)).getD a (0, 0) = _
      rw [List.getD_eq_getElem?_getD, List.getElem?_map, hg, e]
      rfl
    unfold be en
    rw [hp]
    exact ⟨h1, h2⟩
def BlT (v : W) : KD.Ty := ⟨fun S x => ∃ u as, WOk u ∧ u.1 ≤ v.1 ∧ u.2.length ≤ v.2.length + 1 ∧ Rd v u 0 (byA as) ∧ (RdT v u 0 (byA as)).ok S x, fun e ⟨u, as, a, b, c, d, h⟩ => ⟨u, as, a, b, c, d, (RdT _ _ _ _).up e h⟩⟩
def sp_z_blur : Sp := spB (α := W) (fun w => Wb w) (fun w => [D (wD w)]) (fun w => BlT w)
section
variable {P : Program} {w : World} {K : PySem.W.Frag} {mg : Str → Option Value} {base : Heap}
abbrev t_z_blur : Stmt := top 66
theorem sc_z_blur : FnScope ["_law_bag_here", "_law_w", "_law_many_here", "_law_rooms", "_law_some", "_law_tints", "_law_pairs", "_law_arrows", "_law_begin", "_law_end", "_law_tint", "_law_key", "_law_k", "_law_room"] ["_law_bag_here", "_law_w"] (defScope t_z_blur) := ⟨rfl, rfl, rfl, by decide +kernel, rfl, by decide +kernel, by decide +kernel⟩
theorem ok_z_blur {f : Addr} {fd : FuncData} (F : Fun K "_law_blur" "_law_blur" t_z_blur f fd) (T : Txt mg)
    (C_z_by_arrows : Df P w K mg base "_law_by_arrows" 1 ["_law_w", "_law_v", "_law_arrows"] sp_z_by_arrows)
    (C_z_pull : Df P w K mg base "_law_pull" 1 ["_law_bag_here", "_law_many_here"] sp_z_pull)
    : FnOk P w K mg base CX0 2 f fd ["_law_bag_here", "_law_w"] sp_z_blur := by
  obtain ⟨f_z_by_arrows, fd_z_by_arrows, G_z_by_arrows, m_z_by_arrows, k_z_by_arrows, b_z_by_arrows⟩ := C_z_by_arrows.ex
  obtain ⟨f_z_pull, fd_z_pull, G_z_pull, m_z_pull, k_z_pull, b_z_pull⟩ := C_z_pull.ex
  refine F.ok sc_z_blur (fun vs H Q E h => by obtain ⟨_, _, _, _, _, _, _, hv, _⟩ := h; exact hv.len) (fun cdv A outer s H vs Q E hr h => ?_)
  obtain ⟨b, l, ns, S, w, wb, o, hv, k⟩ := h
  obtain ⟨v1, v2, rfl, h1, h2⟩ := hv.two
  obtain rfl : v1 = .ref b := h1
  refine ⟨_, (pss_cons (ps_set (i := 2) sc_z_blur.nd rfl (.inr rfl) (pe_op op_add pe_int (pe_call G_z_pull (hr.mono (by decide)) (by rfl) m_z_pull k_z_pull b_z_pull .nil pass0 (pa_cons (pv 0) (pa_cons pe_int pa_nil)))))
    (pss_cons (ps_setLc (i := 3) (own := [("_law_room", 13)]) (by rfl) sc_z_blur.nd rfl rfl (sw_true rfl rfl rfl (by decide +kernel)) (pi_range1 (by rfl) T.range (pa_cons (pe_ix (ix_tupK K) (pv 1) pe_int (fun _ _ => rfl)) pa_nil)) (blkOk_by (own := [("_law_room", 13)]) (N := ["_law_bag_here", "_law_w", "_law_many_here", "_law_rooms", "_law_some", "_law_tints", "_law_pairs", "_law_arrows", "_law_begin", "_law_end", "_law_tint", "_law_key", "_law_k", "_law_room"]) (sc := defScope t_z_blur) (by decide +kernel)) (fun _ _ _ _ _ => (pg_name (i := 13) sc_z_blur.nd rfl (.inl rfl))) (fun _ _ _ _ _ => pts_nil) (fun _ _ _ _ _ => (pe_ifExp (pt_cmpR op_gt (pe_call G_z_pull (hr.mono (by decide)) (by rfl) m_z_pull k_z_pull b_z_pull .nil pass0 (pa_cons (pv 0) (pa_cons pe_int pa_nil))) pe_int (nomark _)) (pe_op op_modN (pv 13) (pv 2)) (pe_call G_z_pull (hr.mono (by decide)) (by rfl) m_z_pull k_z_pull b_z_pull .nil pass0 (pa_cons (pv 0) (pa_cons (pv 2) pa_nil))))))
    (pss_cons (ps_set (i := 4) sc_z_blur.nd rfl (.inl rfl) (pe_callB (cr_sortedSet rfl) (by rfl) T.sorted (by decide +kernel) (pa_cons (pe_callTy (call_setI rfl) (by rfl) T.set (by decide +kernel) (pa_cons (pv 3) pa_nil)) pa_nil)))
    (pss_cons (ps_set (i := 5) sc_z_blur.nd rfl (.inl rfl) (pe_op op_add pe_int (pe_call G_z_pull (hr.mono (by decide)) (by rfl) m_z_pull k_z_pull b_z_pull .nil pass0 (pa_cons (pv 0) (pa_cons pe_int pa_nil)))))
    (pss_cons (ps_par (i := 6) (j := 7) (by rfl) sc_z_blur.nd rfl rfl (by decide) rfl rfl (pa_cons (pe_lst pa_nil) (pa_cons (pe_lst pa_nil) pa_nil)) (by rfl))
    (pss_cons (ps_for PassesOwn.never rfl (pi_tupK K (pe_ix (ix_tupK K) (pv 1) pe_int (fun _ _ => rfl))) (pg_tupK K (n := 2) rfl (pgs_cons (pg_name (i := 8) sc_z_blur.nd rfl (.inl rfl)) (pgs_cons (pg_name (i := 9) sc_z_blur.nd rfl (.inl rfl)) pgs_nil)))
      (pss_cons (ps_set (i := 10) sc_z_blur.nd rfl (.inl rfl) (pe_call G_z_pull (hr.mono (by decide)) (by rfl) m_z_pull k_z_pull b_z_pull .nil pass0 (pa_cons (pv 0) (pa_cons (pv 5) pa_nil))))
      (pss_cons (ps_set (i := 11) sc_z_blur.nd rfl (.inl rfl) (pe_tup (pa_cons (pe_bmK K PySem.F.plainAttrs_list PySem.F.slot_list_index PySem.F.type_list_index (mt_indexK K) (pv 4) (pa_cons (pe_ix (ix_listK K) (pv 3) (pv 8) (fun _ _ => rfl)) pa_nil)) (pa_cons (pe_bmK K PySem.F.plainAttrs_list PySem.F.slot_list_index PySem.F.type_list_index (mt_indexK K) (pv 4) (pa_cons (pe_ix (ix_listK K) (pv 3) (pv 9) (fun _ _ => rfl)) pa_nil)) (pa_cons (pv 10) pa_nil)))))
      (pss_cons (ps_if (pt_cmpR (op_notInDK K (u65 hr)) (pv 11) (pv 6) (by rfl))
        (pss_one (ps_expr (pe_bmK K PySem.F.plainAttrs_list PySem.F.slot_list_append PySem.F.type_list_append mt_append (pv 6) (pa_cons (pv 11) pa_nil))))
        pss_nil)
      (pss_one (ps_expr (pe_bmK K PySem.F.plainAttrs_list PySem.F.slot_list_append PySem.F.type_list_append mt_append (pv 7) (pa_cons (pe_bmK K PySem.F.plainAttrs_list PySem.F.slot_list_index PySem.F.type_list_index (mt_indexDK K (u65 hr)) (pv 6) (pa_cons (pv 11) pa_nil)) pa_nil))))))))
    (pss_cons (ps_for PassesOwn.never rfl (pi_range1 (by rfl) T.range (pa_cons (pe_callTy call_int1 (by rfl) T.int (by decide +kernel) (pa_cons (pe_cmpR op_eq (pe_call G_z_pull (hr.mono (by decide)) (by rfl) m_z_pull k_z_pull b_z_pull .nil pass0 (pa_cons (pv 0) (pa_cons pe_int pa_nil))) pe_int (nomark _)) pa_nil)) pa_nil)) (pg_name (i := 12) sc_z_blur.nd rfl (.inl rfl))
      (pss_one (ps_expr (pe_bmK K PySem.F.plainAttrs_list PySem.F.slot_list_append PySem.F.type_list_append mt_append (pv 6) (pa_cons (pe_tup (pa_cons (pe_call G_z_pull (hr.mono (by decide)) (by rfl) m_z_pull k_z_pull b_z_pull .nil pass0 (pa_cons (pv 0) (pa_cons (pe_callB (call_lenK K) (by rfl) T.len PySem.boot_len (pa_cons (pv 4) pa_nil)) pa_nil))) (pa_cons (pe_call G_z_pull (hr.mono (by decide)) (by rfl) m_z_pull k_z_pull b_z_pull .nil pass0 (pa_cons (pv 0) (pa_cons (pe_callB (call_lenK K) (by rfl) T.len PySem.boot_len (pa_cons (pv 4) pa_nil)) pa_nil))) (pa_cons pe_int pa_nil)))) pa_nil)))))
    (pss_one (ps_ret (pe_call G_z_by_arrows (hr.mono (by decide)) (by rfl) m_z_by_arrows k_z_by_arrows b_z_by_arrows .nil pass0 (pa_cons (pv 1) (pa_cons (pe_tup (pa_cons (pe_callB (call_lenK K) (by rfl) T.len PySem.boot_len (pa_cons (pv 4) pa_nil)) (pa_cons (pe_callTy (call_tupleK K) (by rfl) T.tuple (by decide +kernel) (pa_cons (pe_lc (own := [("_law_key", 11)]) (by rfl) sc_z_blur.nd (pi_listK K (pv 6)) (blkOk_by (own := [("_law_key", 11)]) (N := ["_law_bag_here", "_law_w", "_law_many_here", "_law_rooms", "_law_some", "_law_tints", "_law_pairs", "_law_arrows", "_law_begin", "_law_end", "_law_tint", "_law_key", "_law_k", "_law_room"]) (sc := defScope t_z_blur) (by decide +kernel)) (fun _ _ _ _ _ => (pg_name (i := 11) sc_z_blur.nd rfl (.inl rfl))) (fun _ _ _ _ _ => pts_nil) (fun _ _ _ _ _ => (pe_slice (sl_tupAK K) (pv 11) po_none (po_some pe_int)))) pa_nil)) pa_nil))) (pa_cons (pv 7) pa_nil))))))))))))), ?_⟩
  have g0 : Gr (bagMd b l ns) S H S H := Gr.refl o
  have lw : w.2.length ≤ 100 := wb.le
  have fw : w.1 ≤ 50 := wb.few
  have okw : WOk w := wb.toWOk
  refine q_asg (P := ⟨fun _ v => ∃ n, 0 < n ∧ n ≤ 3 ∧ v = .int (n : Nat), fun _ h => h⟩) (ev_op (P2 := Lt 3) (ev_int (i := 1)) (ev_callB 3 ⟨by decide, by decide⟩ (ea2 ev_bag ev_int)) ?_) g0 fun v3 S1 H1 g1 e1 h3 => ?_
  · rintro S1 x y e hx ⟨r, hr, rfl⟩
    rw [D_int hx]
    exact rv_I0 fun _ => ⟨r + 1, by omega, by omega, by
      congr 1
      omega⟩
  obtain ⟨m, m0, m3, rfl⟩ := h3
  have h2 := (D _).up e1.st h2
  refine q_asg (P := LstT ((List.range w.1).map fun _ => Lt m)) (xl_Y (xs := List.range w.1) (fun _ => Lt m) (ex_rng1 (ev_w0 (ev_var h2)) (by omega)) (by rw [List.length_range]; omega) ?_) g1 fun v4 S2 H2 g2 e2 h4 => ?_
  · rintro i S2 x e hi rfl
    refine ⟨_, eg_name, rfl, ev_ifU (eu_gt (ev_callB 3 ⟨by decide, by decide⟩ (ea2 ev_bag ev_int)) ev_int) (Ev.conv (ev_opC (g := fun i j => i.fmod j) (ev_var (Dd.int _)) (ev_var (Dd.int _)) (by omega)) fun S v hv => ?_) (ev_callB m ⟨m0, by omega⟩ (ea2 ev_bag (ev_var (Dd.int _))))⟩
    obtain rfl := D_int hv
    obtain ⟨r, hr, e⟩ := fmod_lt (i := (i : Nat)) m0
    exact ⟨r, hr, by rw [e]⟩
  obtain ⟨a4, vs4, rfl, q4, q4'⟩ := h4
  obtain ⟨rs, rl, rlt, rfl⟩ := all_lt q4'
  have h4 : (D (lI rs)).ok S2 (.ref a4) := Dd.lst q4 (dd_nats _ _)
  have h2 := (D _).up e2.st h2
  refine q_asg (ev_sortSet (by rw [rl]; omega) (ev_var h4)) g2 fun v5 S3 H3 g3 e3 h5 => ?_
  obtain ⟨ss, snd, smem, h5⟩ := h5
  have h2 := (D _).up e3.st h2
  have h4 := (D _).up e3.st h4
  have sl : ss.length ≤ w.1 := by
    rw [← rl]
    exact nat_nodup_len ss rs snd fun x hx => (smem x).mp hx
  have s0 : 0 < ss.length := by
    have hp : 0 < rs.length := by rw [rl]; exact okw.pos
    exact List.length_pos_of_mem ((smem _).mpr (List.getElem_mem hp))
  have rin : ∀ x, x < w.1 → rs[x]? = some (rs.getD x 0) ∧ rs.getD x 0 ∈ ss := fun x hx => by
    have hp : x < rs.length := by rw [rl]; exact hx
    have e : rs[x]? = some (rs.getD x 0) := by rw [List.getD_eq_getElem?_getD, List.getElem?_eq_getElem hp]; rfl
    exact ⟨e, (smem _).mpr (List.mem_of_getElem? e)⟩
  have ix : ∀ x, x < w.1 → ss.idxOf (rs.getD x 0) < ss.length := fun x hx => List.idxOf_lt_length_iff.mpr (rin x hx).2
  refine q_asg (P := ⟨fun _ v => ∃ n, 0 < n ∧ n ≤ 2 ∧ v = .int (n : Nat), fun _ h => h⟩) (ev_op (P2 := Lt 2) (ev_int (i := 1)) (ev_callB 2 ⟨by decide, by decide⟩ (ea2 ev_bag ev_int)) ?_) g3 fun v6 S4 H4 g4 e4 h6 => ?_
  · rintro S1 x y e hx ⟨r, hr, rfl⟩
    rw [D_int hx]
    exact rv_I0 fun _ => ⟨r + 1, by omega, by omega, by
      congr 1
      omega⟩
  obtain ⟨tn, t0, t2, rfl⟩ := h6
  have h2 := (D _).up e4.st h2
  have h4 := (D _).up e4.st h4
  have h5 := (D _).up e4.st h5
  -- two lists of our own
  have two : ∀ {tz : TS} {D' : Ends}, (∀ p q H', p ≠ q → Gr (bagMd b l ns) S H S4 H' → Own (bagMd b l ns) S H S4 H' p (.lst []) → Own (bagMd b l ns) S H S4 H' q (.lst []) → tz D' [some (.ref b), some v2, some (.int (m : Nat)), some (.ref a4), some v5, some (.int (tn : Nat)), some (.ref p), some (.ref q), none, none, none, none, none, none] H') →
      tSeq (tPar 6 7 (tCons (tLst tNil) (tCons (tLst tNil) tNil))) tz D' [some (.ref b), some v2, some (.int (m : Nat)), some (.ref a4), some v5, some (.int (tn : Nat)), none, none, none, none, none, none, none, none] H4 := fun k2 => by
    refine ⟨Nat.zero_le _, fun p hp => ⟨Nat.zero_le _, fun q hq => ⟨_, _, rfl, ?_⟩⟩⟩
    have n1 := g4.k.newL (o := .lst []) hp
    have n2 := n1.k.newL (o := .lst []) hq
    have ne : p ≠ q := fun z => by
      rw [← z, upd_same] at hq
      cases hq
    refine k2 p q _ ne (g4.trans (n1.trans n2)) ⟨nf_back g4 hp, g4.k.le.free hp, by rw [upd_ne ne]; exact upd_same, True.intro⟩ ⟨nf_back g4 (nf_back n1 hq), g4.k.le.free (nf_back n1 hq), upd_same, True.intro⟩
  refine two fun p q H5 npq g5 w5 u5 => ?_
  refine q_for (ex_tupD (xs := w.2) (enc := pD) (ev_w1 (ev_var h2))) g5 (fun i σ S' H' => ∃ (x8 x9 x10 x11 : Option V) (xs : List V) (ys : List V) (ts : List (List Nat)) (as : List Nat), σ = [some (.ref b), some v2, some (.int (m : Nat)), some (.ref a4), some v5, some (.int (tn : Nat)), some (.ref p), some (.ref q), x8, x9, x10, x11, none, none] ∧ Own (bagMd b l ns) S H S' H' p (.lst xs) ∧ Own (bagMd b l ns) S H S' H' q (.lst ys) ∧ DdAll S' xs (ts.map tI) ∧ ys = as.map (fun n : Nat => V.int (n : Nat)) ∧ BlI w rs ss ts as i) (fun S6 H6 e6 => ⟨none, none, none, none, [], [], [], [], rfl, w5.step g5 e6, u5.step g5 e6, .nil, rfl, rfl, Nat.le_refl _, (fun t ht => by cases ht), fun a ha => absurd ha (Nat.not_lt_zero _)⟩) ?_ ?_
  · rintro Sb i pp σ1 S6 H6 x S7 H7 hi eb g7 e7 ⟨x8, x9, x10, x11, xs, ys, ts, as, rfl, w6, u6, d6, rfl, B⟩ e8 hx
    have hil : i < w.2.length := (List.getElem?_eq_some_iff.mp hi).1
    have hpp : pp = pr w i := by
      rw [pr_at hil] at hi
      exact (Option.some.inj hi).symm
    subst hpp
    obtain ⟨z, zs, rfl, z1, z2⟩ := D_tup.1 hx
    obtain ⟨y1, y2, rfl, hy1, hy2⟩ := All.two (P := D (nI (be w i))) (P1 := D (nI (en w i))) z2
    obtain rfl := D_int hy1
    obtain rfl := D_int hy2
    have w7 := w6.step g7 e8
    have u7 := u6.step g7 e8
    have d7 := DdAll.up e8.st _ d6
    have h4 := (D _).up (eb.trans e7) h4
    have h5 := (D _).up (eb.trans e7) h5
    obtain ⟨rb, re⟩ := okw.rng i hil
    refine eg_pair z1 H7 _ g7.k.le ?_
    show tSeq (tAsg _ _) _ _ [some (.ref b), some v2, some (.int (m : Nat)), some (.ref a4), some v5, some (.int (tn : Nat)), some (.ref p), some (.ref q), some (.int (be w i : Nat)), some (.int (en w i : Nat)), x10, x11, none, none] _
    refine q_asg (P := Lt tn) (ev_callB tn ⟨t0, by omega⟩ (ea2 ev_bag (ev_var (Dd.int _)))) g7 fun v10 S8 H8 g8 e9 h10 => ?_
    obtain ⟨tint, ht, rfl⟩ := h10
    have w8 := w7.step g7 e9
    have u8 := u7.step g7 e9
    have d8 := DdAll.up e9.st _ d7
    have h4 := (D _).up e9.st h4
    have h5 := (D _).up e9.st h5
    let key : List Nat := [ss.idxOf (rs.getD (be w i) 0), ss.idxOf (rs.getD (en w i) 0), tint]
    refine q_asg (P := D (tI key)) (ev_tupD (ds := [nI (ss.idxOf (rs.getD (be w i) 0)), nI (ss.idxOf (rs.getD (en w i) 0)), nI tint]) (ea3 (ev_index (ev_var h5) (ev_ixLN (enc := nI) (ev_var h4) (ev_var (Dd.int _)) (rin _ rb).1) (rin _ rb).2) (ev_index (ev_var h5) (ev_ixLN (enc := nI) (ev_var h4) (ev_var (Dd.int _)) (rin _ re).1) (rin _ re).2) (ev_var (Dd.int _)))) g8 fun v11 S9 H9 g9 e10 h11 => ?_
    have w9 := w8.step g8 e10
    have u9 := u8.step g8 e10
    have d9 := DdAll.up e10.st _ d8
    -- what comes behind the if
    have fin : ∀ (ts' : List (List Nat)) (xs' : List V) S10 H10, Gr (bagMd b l ns) S H S10 H10 → Same S9 S10 → Own (bagMd b l ns) S H S10 H10 p (.lst xs') → Own (bagMd b l ns) S H S10 H10 q (.lst (as.map (fun n : Nat => V.int (n : Nat)))) → DdAll S10 xs' (ts'.map tI) → (ts' = ts ∨ ts' = ts ++ [key]) → key ∈ ts' → (D (tI key)).ok S10 v11 →
        ∀ {D' : Ends}, (∀ σ H', Nx (bagMd b l ns) S H Sb (fun i σ S' H' => ∃ (x8 x9 x10 x11 : Option V) (xs : List V) (ys : List V) (ts : List (List Nat)) (as : List Nat), σ = [some (.ref b), some v2, some (.int (m : Nat)), some (.ref a4), some v5, some (.int (tn : Nat)), some (.ref p), some (.ref q), x8, x9, x10, x11, none, none] ∧ Own (bagMd b l ns) S H S' H' p (.lst xs) ∧ Own (bagMd b l ns) S H S' H' q (.lst ys) ∧ DdAll S' xs (ts.map tI) ∧ ys = as.map (fun n : Nat => V.int (n : Nat)) ∧ BlI w rs ss ts as i) (i + 1) σ H' → D'.nx σ H') →
        tDrop (tBM K "list" rAppend (tVar 7) (tCons (tBM K "list" (rIndexD K) (tVar 6) (tCons (tVar 11) tNil)) tNil)) D' [some (.ref b), some v2, some (.int (m : Nat)), some (.ref a4), some v5, some (.int (tn : Nat)), some (.ref p), some (.ref q), some (.int (be w i : Nat)), some (.int (en w i : Nat)), some (.int (tint : Nat)), some v11, none, none] H10 :=
      fun ts' xs' S10 H10 g10 e11 w10 u10 d10 hts hkey h11 D' hD => by
        have hl : (D (rsD ts')).ok (L2.upd S10 p (.lst xs')) (.ref p) := Dd.lst upd_same (DdAll.up w10.puts _ d10)
        refine s_appP (P := D (nI (ts'.idxOf key))) ha_var w10 (ev_idxRows (ev_var hl) (ev_var ((D _).up w10.puts h11)) hkey) g10 u10 (by rw [List.length_map, B.al]; omega) npq fun v S11 S12 H12 g12 e12 u12 w12 hv => hD _ _ ⟨S12, g12, e7.trans (e9.st.trans (e10.st.trans (e11.trans e12))), _, _, _, _, xs', _, ts', as ++ [ts'.idxOf key], rfl, w12, u12, DdAll.up e12 _ d10, ?_, B.next ts' hts hkey (ix _ rb) (ix _ re)⟩
        rw [D_int hv, List.map_append]
        rfl
    have hl9 : (D (rsD ts)).ok (L2.upd S9 p (.lst xs)) (.ref p) := Dd.lst upd_same (DdAll.up w9.puts _ d9)
    have cmp : EvT (bagMd b l ns) (L2.upd S9 p (.lst xs)) (tTest (tOp (rNotInD K) (tVar 11) (tVar 6))) [some (.ref b), some v2, some (.int (m : Nat)), some (.ref a4), some v5, some (.int (tn : Nat)), some (.ref p), some (.ref q), some (.int (be w i : Nat)), some (.int (en w i : Nat)), some (.int (tint : Nat)), some v11, none, none] (!decide (key ∈ ts)) := et_val (Ev.eq (ev_notInD (ev_var ((D _).up w9.puts h11)) (ev_var hl9) (shp_tI key).shaped (shp_lm (fun t => shp_tI t) ts).shaped) (by rw [any_rows]))
    refine w9.peekT g9 cmp fun S10 H10 g10 e11 w10 => ?_
    have u10 := u9.step g9 e11
    have d10 := DdAll.up e11.st _ d9
    have h11 := (D _).up e11.st h11
    by_cases hk : key ∈ ts
    · rw [show (!decide (key ∈ ts)) = false by rw [decide_eq_true hk]; rfl]
      exact iteF (fin ts xs S10 H10 g10 e11.st w10 u10 d10 (.inl rfl) hk h11 fun σ H' h => h)
    · rw [show (!decide (key ∈ ts)) = true by rw [decide_eq_false hk]; rfl]
      refine iteT ?_
      refine s_appO (P := D (tI key)) ha_var (ev_var h11) g10 w10 (by rw [d10.len, List.length_map]; have := B.tl; omega) fun v S11 H11 H12 g11 eq12 g12 e12 w12 hv => ?_
      have u11 := u10.step g10 g11
      have u12 : Own (bagMd b l ns) S H S11 H12 q (.lst (as.map (fun n : Nat => V.int (n : Nat)))) := by
        rw [eq12]
        exact u11.other (fun z => npq z.symm)
      refine fin (ts ++ [key]) (xs ++ [v]) S11 H12 g12 (e11.st.trans e12) w12 u12 ?_ (.inr rfl) (List.mem_append_right _ (List.mem_singleton.mpr rfl)) ((D _).up e12 h11) fun σ H' h => h
      rw [List.map_append]
      exact (DdAll.up e12 _ d10).app (.cons hv .nil)
  · rintro σ1 S6 H6 g6 e6 ⟨x8, x9, x10, x11, xs, ys, ts, as, rfl, w6, u6, d6, rfl, B⟩
    have h2 := (D _).up e6 h2
    have h5 := (D _).up e6 h5
    refine rng_pick (m := 2) (ev_int01 (ev_callB 4 ⟨by decide, by decide⟩ (ea2 ev_bag ev_int))) g6 fun n S7 H7 hn g7 e7 => ?_
    have w7 := w6.step g6 e7
    have u7 := u6.step g6 e7
    have d7 := DdAll.up e7.st _ d6
    have h2 := (D _).up e7.st h2
    have h5 := (D _).up e7.st h5
    refine q_for (xs := List.range n) (ex_rng1 ev_int (by omega)) g7 (fun i σ S' H' => ∃ (x12 : Option V) (ys : List V) (more : List (List Nat)), σ = [some (.ref b), some v2, some (.int (m : Nat)), some (.ref a4), some v5, some (.int (tn : Nat)), some (.ref p), some (.ref q), x8, x9, x10, x11, x12, none] ∧ Own (bagMd b l ns) S H S' H' p (.lst ys) ∧ Own (bagMd b l ns) S H S' H' q (.lst (as.map fun n : Nat => V.int (n : Nat))) ∧ DdAll S' ys ((ts ++ more).map tI) ∧ (∀ t ∈ more, ∃ x y z, t = [x, y, z] ∧ x < ss.length ∧ y < ss.length) ∧ more.length = i) (fun S8 H8 e8 => ⟨none, xs, [], rfl, w7.step g7 e8, u7.step g7 e8, by rw [List.append_nil]; exact DdAll.up e8.st _ d7, (fun t ht => by cases ht), rfl⟩) ?_ ?_
    · rintro Sb i a σ2 S8 H8 x S9 H9 hi eb g9 e9 ⟨x12, ys, more, rfl, w8, u8, d8, sh, ml⟩ e10 rfl
      have hin : i < n := by
        have := (List.getElem?_eq_some_iff.mp hi).1
        simpa using this
      have w9 := w8.step g9 e10
      have u9 := u8.step g9 e10
      have d9 := DdAll.up e10.st _ d8
      have h5 := (D _).up (eb.trans e9) h5
      have ln : ∀ {S'} , Same S9 S' → Ev (bagMd b l ns) S' (tCB (rLenS K) (tCons (tVar 4) tNil)) [some (.ref b), some v2, some (.int (m : Nat)), some (.ref a4), some v5, some (.int (tn : Nat)), some (.ref p), some (.ref q), x8, x9, x10, x11, some (.int (a : Nat)), none] (D (nI ss.length)) := fun {S'} e => Ev.eq (ev_lenDL (ev_var ((D _).up e h5))) (by rw [List.length_map])
      show tDrop _ _ [some (.ref b), some v2, some (.int (m : Nat)), some (.ref a4), some v5, some (.int (tn : Nat)), some (.ref p), some (.ref q), x8, x9, x10, x11, some (.int (a : Nat)), none] _
      refine s_appO (P := ⟨fun S v => ∃ x y, x < ss.length ∧ y < ss.length ∧ (D (tI [x, y, 2])).ok S v, fun e ⟨x, y, a, b, c⟩ => ⟨x, y, a, b, (D _).up e c⟩⟩) ha_var (Ev.conv (ev_tup (ts := [Lt ss.length, Lt ss.length, D (nI 2)]) (ea3 (ev_callB ss.length ⟨s0, by omega⟩ (ea2 ev_bag (ln (Same.refl _)))) (ev_callB ss.length ⟨s0, by omega⟩ (ea2 ev_bag (ln (Same.refl _)))) ev_int)) fun S v hv => ?_) g9 w9 (by rw [d9.len, List.length_map, List.length_append]; have := B.tl; omega) fun v S10 H10 H11 g10 eq11 g11 e11 w11 hv => ?_
      · obtain ⟨c, vs, rfl, c1, c2⟩ := hv
        obtain ⟨x, y, z, rfl, ⟨r1, hr1, rfl⟩, ⟨r2, hr2, rfl⟩, hz⟩ := c2.three
        obtain rfl := D_int hz
        exact ⟨r1, r2, hr1, hr2, Dd.tup c1 (.cons (Dd.int _) (.cons (Dd.int _) (.cons (Dd.int _) .nil)))⟩
      · obtain ⟨x, y, hx, hy, hv⟩ := hv
        refine ⟨S10, g11, e9.trans e11, _, ys ++ [v], more ++ [[x, y, 2]], rfl, w11, ?_, ?_, fun t ht => ?_, by rw [List.length_append, ml]; rfl⟩
        · rw [eq11]
          exact (u9.step g9 g10).other fun z => npq z.symm
        · rw [← List.append_assoc, List.map_append]
          exact (DdAll.up e11 _ d9).app (.cons hv .nil)
        · rcases List.mem_append.mp ht with ht | ht
          · exact sh t ht
          · rw [List.mem_singleton] at ht
            exact ⟨x, y, 2, ht, hx, hy⟩
    · rintro σ2 S8 H8 g8 e8 ⟨x12, ys, more, rfl, w8, u8, d8, sh, ml⟩
      rw [List.length_range] at ml
      have h2 := (D _).up e8 h2
      have h5 := (D _).up e8 h5
      have gp := w8.put g8
      have u9 : Own (bagMd b l ns) S H (L2.upd S8 p (.lst ys)) H8 q (.lst (as.map fun n : Nat => V.int (n : Nat))) := ⟨u8.h0, by rw [upd_ne (fun z => npq z.symm)]; exact u8.s, u8.h, True.intro⟩
      have gq := u9.put gp
      have e9 : Same S8 (L2.upd (L2.upd S8 p (.lst ys)) q (.lst (as.map fun n : Nat => V.int (n : Nat)))) := w8.puts.trans u9.puts
      have hl : (D (rsD (ts ++ more))).ok (L2.upd (L2.upd S8 p (.lst ys)) q (.lst (as.map fun n : Nat => V.int (n : Nat)))) (.ref p) := Dd.lst (by rw [upd_ne npq]; exact upd_same) (DdAll.up e9 _ d8)
      have ha : (D (lI as)).ok (L2.upd (L2.upd S8 p (.lst ys)) q (.lst (as.map fun n : Nat => V.int (n : Nat)))) (.ref q) := Dd.lst upd_same (dd_nats _ _)
      generalize L2.upd (L2.upd S8 p (.lst ys)) q (.lst (as.map fun n : Nat => V.int (n : Nat))) = S9 at gq e9 hl ha
      have h2 := (D _).up e9 h2
      have h5 := (D _).up e9 h5
      have bo := B.ok okw rl snd smem more sh
      have tl := B.tl
      have shp : ∀ t ∈ ts ++ more, ∃ x y z, t = [x, y, z] := fun t ht => by
        rcases List.mem_append.mp ht with h | h
        · obtain ⟨x, y, z, e, _⟩ := B.sh t h
          exact ⟨x, y, z, e⟩
        · obtain ⟨x, y, z, e, _⟩ := sh t h
          exact ⟨x, y, z, e⟩
      have tml : (ts ++ more).length ≤ w.2.length + 1 := by
        rw [List.length_append]
        omega
      refine s_ret (P := BlT w) (Ev.conv (ev_call (w, bluW ss (ts ++ more), as) ⟨B.al, by show w.2.length ≤ 1000; omega⟩ (ea3 (ev_var h2) (ev_tupD (ds := [nI ss.length, .tuple ((bluW ss (ts ++ more)).2.map pD)]) (ea2 (Ev.eq (ev_lenDL (ev_var h5)) (by rw [List.length_map])) (Ev.conv (ev_tupleL (Ev.Dlst (xl_YD (xs := ts ++ more) (fun t => pD (t.getD 0 0, t.getD 1 0)) (ex_listD (enc := tI) (ev_var hl)) (by omega) ?_))) fun S v hv => ?_))) (ev_var ha))) fun S v hv => ?_) gq k
      · rintro t S10 x e10 ht hx
        obtain ⟨c, y, z, rfl⟩ := shp t ht
        refine ⟨_, eg_name, rfl, Ev.conv (ev_slA (K := K) (Ev.Dtup (ds := [nI c, nI y, nI z]) (ev_var hx)) eo_none (eo_some (i := (2 : Nat)) ev_int)) fun S v hv => ?_⟩
        rw [cut_take] at hv
        exact (D_tup (ds := [nI c, nI y])).2 hv
      · refine D_tup.2 ?_
        show (TupT (List.map D (List.map pD (List.map (fun t : List Nat => (t.getD 0 0, t.getD 1 0)) (ts ++ more))))).ok S v
        rw [List.map_map] at hv ⊢
        rw [List.map_map]
        exact hv
      · refine ⟨bluW ss (ts ++ more), as, blu_ok bo, sl, ?_, blu_rd bo, hv⟩
        show (List.map _ _).length ≤ _
        rw [List.length_map]
        exact tml
end
end K49
end
section
set_option linter.all false
set_option maxRecDepth 100000
set_option maxHeartbeats 4000000
namespace K49
open PySem PySem.Spec PyProof.Rows L2 KR KD KB
/-- what the law draws -/
structure Drawn (w v : W) (j : Nat) (T : Tb) : Prop where
  okw : WOk w
  rw : w.1 ≤ 4
  aw : w.2.length ≤ 9
  okv : WOk v
  rv : v.1 ≤ 6
  av : v.2.length ≤ 15
  rd : Rd w v j T
  j3 : j ≤ 3
  m : many w (j + 1) ≤ 200
def DrT : KD.Ty := ⟨fun S x => ∃ w v j T', Drawn w v j T' ∧ (RdT w v j T').ok S x, fun e ⟨w, v, j, T', a, h⟩ => ⟨w, v, j, T', a, (RdT _ _ _ _).up e h⟩⟩
def sp_z_reader : Sp := spB (α := Unit) (fun _ => True) (fun _ => []) (fun _ => DrT)
section
variable {P : Program} {w : World} {K : PySem.W.Frag} {mg : Str → Option Value} {base : Heap}
abbrev t_z_reader : Stmt := top 67
theorem sc_z_reader : FnScope ["_law_bag_here", "_law_w", "_law_f"] ["_law_bag_here"] (defScope t_z_reader) := ⟨rfl, rfl, rfl, by decide +kernel, rfl, by decide +kernel, by decide +kernel⟩
theorem ok_z_reader {f : Addr} {fd : FuncData} (F : Fun K "_law_reader" "_law_reader" t_z_reader f fd) (T : Txt mg)
    (C_z_blur : Df P w K mg base "_law_blur" 2 ["_law_bag_here", "_law_w"] sp_z_blur)
    (C_z_code : Df P w K mg base "_law_code" 6 ["_law_bag_here", "_law_w", "_law_times"] sp_z_code)
    (C_z_join : Df P w K mg base "_law_join" 4 ["_law_f", "_law_g"] sp_z_join)
    (C_z_pull : Df P w K mg base "_law_pull" 1 ["_law_bag_here", "_law_many_here"] sp_z_pull)
    (C_z_rich : Df P w K mg base "_law_rich" 5 ["_law_bag_here", "_law_rooms_most", "_law_arrows_most"] sp_z_rich)
    : FnOk P w K mg base CX0 7 f fd ["_law_bag_here"] sp_z_reader := by
  obtain ⟨f_z_blur, fd_z_blur, G_z_blur, m_z_blur, k_z_blur, b_z_blur⟩ := C_z_blur.ex
  obtain ⟨f_z_code, fd_z_code, G_z_code, m_z_code, k_z_code, b_z_code⟩ := C_z_code.ex
  obtain ⟨f_z_join, fd_z_join, G_z_join, m_z_join, k_z_join, b_z_join⟩ := C_z_join.ex
  obtain ⟨f_z_pull, fd_z_pull, G_z_pull, m_z_pull, k_z_pull, b_z_pull⟩ := C_z_pull.ex
  obtain ⟨f_z_rich, fd_z_rich, G_z_rich, m_z_rich, k_z_rich, b_z_rich⟩ := C_z_rich.ex
  refine F.ok sc_z_reader (fun vs H Q E h => by obtain ⟨_, _, _, _, _, _, _, hv, _⟩ := h; exact hv.len) (fun cdv A outer s H vs Q E hr h => ?_)
  obtain ⟨b, l, ns, S, _, _, o, hv, k⟩ := h
  obtain ⟨v1, rfl, h1⟩ := hv.one
  obtain rfl : v1 = .ref b := h1
  refine ⟨_, (pss_cons (ps_set (i := 1) sc_z_reader.nd rfl (.inl rfl) (pe_call G_z_rich (hr.mono (by decide)) (by rfl) m_z_rich k_z_rich b_z_rich .nil pass0 (pa_cons (pv 0) (pa_cons pe_int (pa_cons pe_int pa_nil)))))
    (pss_cons (ps_set (i := 2) sc_z_reader.nd rfl (.inl rfl) (pe_call G_z_code (hr.mono (by decide)) (by rfl) m_z_code k_z_code b_z_code .nil pass0 (pa_cons (pv 0) (pa_cons (pv 1) (pa_cons (pe_call G_z_pull (hr.mono (by decide)) (by rfl) m_z_pull k_z_pull b_z_pull .nil pass0 (pa_cons (pv 0) (pa_cons pe_int pa_nil))) pa_nil)))))
    (pss_cons (ps_if (pt_cmpR op_eq (pe_call G_z_pull (hr.mono (by decide)) (by rfl) m_z_pull k_z_pull b_z_pull .nil pass0 (pa_cons (pv 0) (pa_cons pe_int pa_nil))) pe_int (nomark _))
      (pss_one (ps_set (i := 2) sc_z_reader.nd rfl (.inl rfl) (pe_call G_z_join (hr.mono (by decide)) (by rfl) m_z_join k_z_join b_z_join .nil pass0 (pa_cons (pv 2) (pa_cons (pe_call G_z_blur (hr.mono (by decide)) (by rfl) m_z_blur k_z_blur b_z_blur .nil pass0 (pa_cons (pv 0) (pa_cons (pe_ix (ix_tupK K) (pv 2) pe_int (fun _ _ => rfl)) pa_nil))) pa_nil)))))
      pss_nil)
    (pss_one (ps_ret (pv 2)))))), ?_⟩
  have g0 : Gr (bagMd b l ns) S H S H := Gr.refl o
  refine q_asg (P := WebT 4 9) (ev_callB (4, 9) ⟨by decide, by decide, by decide, by decide⟩ (ea3 ev_bag ev_int ev_int)) g0 fun v2 S1 H1 g1 e1 h2 => ?_
  obtain ⟨w, okw, rw', aw, h2⟩ := h2
  have wb : Wb w := ⟨okw, by omega, by omega⟩
  refine q_asg (P := CdT w) (ev_callB (w, 4) ⟨wb, by show w.1 ≤ 6; omega, by show w.2.length ≤ 14; omega, by show (4 : Nat) ≤ 100; decide⟩ (ea3 ev_bag (ev_var h2) (ev_callB 4 ⟨by decide, by decide⟩ (ea2 ev_bag ev_int)))) g1 fun v3 S2 H2 g2 e2 h3 => ?_
  obtain ⟨v, j, T1, okv, rv, av, rd, hj, hm, h3⟩ := h3
  refine q_mid (fun σ H' => ∃ (S' : Hp) (u : V), σ = [some (.ref b), some v2, some u] ∧ Gr (bagMd b l ns) S H S' H' ∧ DrT.ok S' u) ?_ fun tail => ?_
  · rintro σ H' ⟨S', u, rfl, g, hu⟩
    exact s_ret (ev_var hu) g k
  · refine q_ifU (eu_eq (ev_callB 2 ⟨by decide, by decide⟩ (ea2 ev_bag ev_int)) ev_int) g2 (fun S3 H3 g3 e3 => ?_) (fun S3 H3 g3 e3 => tail _ _ ⟨S3, v3, rfl, g3, w, v, j, T1, ⟨okw, rw', aw, okv, rv, by omega, rd, hj, hm⟩, (RdT _ _ _ _).up e3.st h3⟩)
    have h3 := (RdT _ _ _ _).up e3.st h3
    have vb : Wb v := ⟨okv, by omega, by omega⟩
    have hbl : Ev (bagMd b l ns) S3 (tCall sp_z_blur [] E0 (tCons (tVar 0) (tCons (tOp (rIxT K) (tVar 2) (tC (.int 1))) tNil))) [some (.ref b), some v2, some v3] (BlT v) := ev_callB v vb (ea2 ev_bag (ev_ixT (P := D (wD v)) (ev_var h3) ev_int rfl rfl))
    -- the arguments of the join
    refine s_asg (P := DrT) (fun S4 H4 R e4 o4 k4 => ?_) g3 fun v9 S9 H9 g9 e9 h9 => tail _ _ ⟨S9, v9, rfl, g9, h9⟩
    refine (ev_var ((RdT _ _ _ _).up e4 h3) : Ev (bagMd b l ns) S4 (tVar 2) [some (.ref b), some v2, some v3] (RdT w v j T1)) S4 H4 _ (Same.refl _) o4 fun x S5 H5 g5 hx => (hbl.up e4) S5 H5 _ g5.st g5.k fun y S6 H6 g6 hy => ?_
    obtain ⟨u, as, oku, ru, au, rdu, hy⟩ := hy
    have jo : JnA.Ok ⟨w, v, u, j, 0, T1, byA as⟩ := ⟨wb, vb, rd, rdu, by show many w (j + 0 + 1) ≤ 1000; rw [Nat.add_zero]; omega, by show many v (0 + 1) ≤ 1000; rw [many_one okv]; omega, by show j + 0 ≤ 50; omega⟩
    obtain ⟨o1, o2⟩ := jo.rd
    have o2 : (JnA.out ⟨w, v, u, j, 0, T1, byA as⟩).1 ≤ j := o2
    refine ⟨S6, ⟨w, v, u, j, 0, T1, byA as⟩, jo, g6.k.le, .cons ((RdT _ _ _ _).up g6.st hx) (.cons hy .nil), fun z S7 H7 g7 hz => ?_⟩
    exact k4 z S7 H7 ((g5.trans g6).trans (g7.lift g6.k)) ⟨w, u, _, _, ⟨okw, rw', aw, oku, by omega, by omega, o1, by omega, Nat.le_trans (many_mono okw (by omega)) hm⟩, hz⟩
end
end K49
end
section
set_option linter.all false
set_option maxRecDepth 100000
set_option maxHeartbeats 4000000
namespace K49
open PySem PySem.Spec PyProof.Rows L2 KR KD
theorem pe_globC {X : Cx} {x : Str} {C : Addr} {pos : Pos} (hg : Gl X x) (hm : X.mg x = some (.ref C)) (hd : (x == ("__debug__" : Str)) = false := by decide) : PE X (.Name x pos) (tC (.ref C)) := pe_glob hg hm rfl hd
theorem pe_bty {X : Cx} {x : Str} {pos : Pos} (n : String) (hg : Gl X x) (hm : X.mg x = none) (hv : bootBuiltins x = some (.type n) := by decide +kernel) (hn : x ≠ "__name__" := by decide) (hd : (x == ("__debug__" : Str)) = false := by decide) : PE X (.Name x pos) (tC (.ty n)) := pe_bltn hg hm hv rfl hn hd
section
variable {md : Md} {S H S' H' S1 H1 S0 H0 : Hp} {K : PySem.W.Frag} {σ : L2.St} {ta tb te tx : TE} {P : KD.Ty} {D' : Ends} {tz : TS}
/-- the promise of an __init__: the instance, its attributes -/
def spI {α : Type} (C : Addr) (dom : α → Prop) (f : α → List KD.Ty) (g : α → List (Str × KD.Ty)) : Sp := fun vs H Q _ => ∃ (S Hb : Hp) (a : α) (x dx : Addr) (ws : List V), dom a ∧ vs = .ref x :: ws ∧ Gr md0 S Hb S H ∧ Own md0 S Hb S H x (.ins C dx []) ∧ All S ws (f a) ∧
  ∀ S' H' us, Gr md0 S Hb S' H' → Own md0 S Hb S' H' x (.ins C dx (((g a).map (·.1)).zip us)) → All S' us ((g a).map (·.2)) → Q .non H'
theorem ev_make {α : Type} {dom : α → Prop} {f : α → List KD.Ty} {g : α → List (Str × KD.Ty)} {C : Addr} {tr : TA} {E : XK} (a : α) (ha : dom a) (h : EvA md S tr σ (f a)) : Ev md S (tMake C (spI C dom f g) [] E tr) σ (InsT C (g a)) := fun S1 H R e o k =>
  h S1 H _ e o fun vs S2 H2 g2 hvs x dx hx hdx ne => by
    have n1 : Gr md0 S2 H2 S2 (L2.upd H2 dx (.own x)) := (ok0 g2.k.le).newL hdx
    have hx' : L2.upd H2 dx (.own x) x = none := by rw [upd_ne (fun z => ne z.symm)]; exact hx
    have n2 := n1.k.newL (o := .ins C dx []) hx'
    refine ⟨S2, H2, a, x, dx, vs, ha, by rw [List.append_nil], n1.trans n2, ⟨hx, g2.k.le.free hx, upd_same, True.intro⟩, hvs, fun S' H' us g3 w3 hus => ⟨rfl, k _ _ _ (g2.trans ((w3.put g3).lift g2.k)) ⟨x, dx, us, rfl, upd_same, hus.up w3.puts⟩⟩⟩
/-- self.f = e -/
theorem s_fld {x C dx : Addr} {fs : List (Str × V)} {f : Str} (h : Ev md S te σ P) (ha : ∀ (H : Hp) (R : VK), R (.ref x) H → ta σ H R) (c : Cls K C) (n : NoAttr K C f) (g : Gr md S0 H0 S H) (w : Own md S0 H0 S H x (.ins C dx fs)) (hl : fs.length < 1000)
    (k : ∀ v S' H', Gr md S0 H0 S' H' → Same S S' → Own md S0 H0 S' H' x (.ins C dx (putF f v fs)) → P.ok S' v → D'.nx σ H') : sFld K ta te f D' σ H :=
  h S H _ (Same.refl _) g.k fun v S2 H2 g2 hv => ha H2 _ (by
    have w2 := w.step g g2
    obtain ⟨a, b⟩ := w2.upd (o' := .ins C dx (putF f v fs)) (g.trans g2)
    exact ⟨x, C, dx, fs, rfl, w2.h, c, n, hl, k v S2 _ a g2.st b hv⟩)
theorem q_fld {x C dx : Addr} {fs : List (Str × V)} {f : Str} (h : Ev md S te σ P) (ha : ∀ (H : Hp) (R : VK), R (.ref x) H → ta σ H R) (c : Cls K C) (n : NoAttr K C f) (g : Gr md S0 H0 S H) (w : Own md S0 H0 S H x (.ins C dx fs)) (hl : fs.length < 1000)
    (k : ∀ v S' H', Gr md S0 H0 S' H' → Same S S' → Own md S0 H0 S' H' x (.ins C dx (putF f v fs)) → P.ok S' v → tz D' σ H') : tSeq (sFld K ta te f) tz D' σ H :=
  s_fld (D' := { D' with nx := tz D' }) h ha c n g w hl k
mutual
theorem Dd.cut {l : Addr} (hl : ∀ xs, S l ≠ some (.lst xs) ∧ S l ≠ some (.tup xs)) : ∀ (d : PyData) {v : V}, Dd S v d → Dd (cutH S l) v d
  | .none, _, h => by cases h; exact .non
  | .bool _, _, h => by cases h; exact .bl _
  | .int _, _, h => by cases h; exact .int _
  | .str _, _, h => by cases h; exact .str _
  | .list ds, _, h => by
    cases h with
    | @lst a xs _ h1 h2 => exact .lst (by rw [cutH_ne (fun z : a = l => (hl xs).1 (by rw [← z]; exact h1))]; exact h1) (DdAll.cut hl ds h2)
  | .tuple ds, _, h => by
    cases h with
    | @tup a xs _ h1 h2 => exact .tup (by rw [cutH_ne (fun z : a = l => (hl xs).2 (by rw [← z]; exact h1))]; exact h1) (DdAll.cut hl ds h2)
  | .dict _, _, h => by cases h
theorem DdAll.cut {l : Addr} (hl : ∀ xs, S l ≠ some (.lst xs) ∧ S l ≠ some (.tup xs)) : ∀ (ds : List PyData) {vs : List V}, DdAll S vs ds → DdAll (cutH S l) vs ds
  | [], _, h => by cases h; exact .nil
  | d :: ds, _, h => by
    cases h with
    | cons h1 h2 => exact .cons (Dd.cut hl d h1) (DdAll.cut hl ds h2)
end
/-- data that are made while an instance of our own is read -/
theorem peekD {l C dx : Addr} {fs : List (Str × V)} {d : PyData} {R : VK} (w : Own md S0 H0 S H l (.ins C dx fs)) (g : Gr md S0 H0 S H) (h : Ev md (L2.upd S l (.ins C dx fs)) te σ (D d)) (k : ∀ v S' H', Gr md S0 H0 S' H' → Same S S' → Own md S0 H0 S' H' l (.ins C dx fs) → (D d).ok S' v → R v H') : te σ H R :=
  h (L2.upd S l (.ins C dx fs)) H _ (Same.refl _) (w.put g).k fun v S2 H2 g2 hv => by
    have q := peek_gr w.s (g.nm w.h0) g.k g2
    have at_ := g2.st l _ upd_same
    refine k v _ H2 (g.trans q) q.st (w.step g q) (Dd.cut (fun xs => ⟨fun z => ?_, fun z => ?_⟩) d hv) <;> rw [at_] at z <;> cases z
theorem s_fldD {x C dx : Addr} {fs : List (Str × V)} {f : Str} {d : PyData} (w : Own md S0 H0 S H x (.ins C dx fs)) (h : Ev md (L2.upd S x (.ins C dx fs)) te σ (D d)) (ha : ∀ (H : Hp) (R : VK), R (.ref x) H → ta σ H R) (c : Cls K C) (n : NoAttr K C f) (g : Gr md S0 H0 S H) (hl : fs.length < 1000)
    (k : ∀ v S' H', Gr md S0 H0 S' H' → Same S S' → Own md S0 H0 S' H' x (.ins C dx (putF f v fs)) → (D d).ok S' v → D'.nx σ H') : sFld K ta te f D' σ H :=
  peekD w g h fun v S2 H2 g2 e2 w2 hv => ha H2 _ (by
    obtain ⟨a, b⟩ := w2.upd (o' := .ins C dx (putF f v fs)) g2
    exact ⟨x, C, dx, fs, rfl, w2.h, c, n, hl, k v S2 _ a e2 b hv⟩)
theorem q_fldD {x C dx : Addr} {fs : List (Str × V)} {f : Str} {d : PyData} (w : Own md S0 H0 S H x (.ins C dx fs)) (h : Ev md (L2.upd S x (.ins C dx fs)) te σ (D d)) (ha : ∀ (H : Hp) (R : VK), R (.ref x) H → ta σ H R) (c : Cls K C) (n : NoAttr K C f) (g : Gr md S0 H0 S H) (hl : fs.length < 1000)
    (k : ∀ v S' H', Gr md S0 H0 S' H' → Same S S' → Own md S0 H0 S' H' x (.ins C dx (putF f v fs)) → (D d).ok S' v → tz D' σ H') : tSeq (sFld K ta te f) tz D' σ H :=
  s_fldD (D' := { D' with nx := tz D' }) w h ha c n g hl k
/-- isinstance -/
theorem ev_isInt {i : Int} {n : String} {b : Bool} (h : Ev md S ta σ (D (.int i))) (hb : kitB "int" n = some b := by decide +kernel) : Ev md S (tCB (rIsi K) (tCons ta (tCons (tC (.ty n)) tNil))) σ (D (.bool b)) :=
  ev_cb (ea2 h (P2 := IsV (.ty n)) (fun S1 H R e o k => k _ S1 H (Gr.refl o) rfl)) fun S1 vs e hv H R o k => by
    obtain ⟨x, y, rfl, hx, rfl⟩ := hv.two
    obtain rfl := D_int hx
    exact ⟨_, _, _, _, b, rfl, .ty n, .base (.int i), kit_ty hb, k _ _ _ (Gr.refl o) (Dd.bl _)⟩
theorem ev_isIns {C : Addr} {fs : List (Str × KD.Ty)} (h : Ev md S ta σ (InsT C fs)) (ty : ∀ {H : Hp} {a dx : Addr} {fs : List (Str × V)}, H a = some (.ins C dx fs) → TyOf K H (.ref a) (.ref C)) (one : PySem.W.kitOne K (.ref C) (.ref C) = some true) : Ev md S (tCB (rIsi K) (tCons ta (tCons (tC (.ref C)) tNil))) σ (D (.bool true)) :=
  ev_cb (ea2 h (P2 := IsV (.ref C)) (fun S1 H R e o k => k _ S1 H (Gr.refl o) rfl)) fun S1 vs e hv H R o k => by
    obtain ⟨x, y, rfl, hx, rfl⟩ := hv.two
    obtain ⟨a, dx, us, rfl, h1, _⟩ := hx
    exact ⟨_, _, _, _, true, rfl, .own C, .base (ty (o.le _ _ h1)), one, k _ _ _ (Gr.refl o) (Dd.bl _)⟩
end
/-! ### the web as an object -/
def wFs (w : W) : List (Str × KD.Ty) := [("size", D (nI w.1)), ("pairs", D (.tuple (w.2.map pD))), ("leaving", D (.list ((List.range w.1).map fun r => lI (outs w r)))), ("coming", D (.list ((List.range w.1).map fun r => lI (ins w r))))]
def WoT (CW : Addr) (w : W) : KD.Ty := InsT CW (wFs w)
def sp_is_within : Sp := spP (α := Int × Int × Int) (fun _ => True) (fun a => [D (.int a.1), D (.int a.2.1), D (.int a.2.2)]) (fun a => D (.bool (decide (a.2.1 ≤ a.1) && decide (a.1 ≤ a.2.2))))
def sp_is_listed : Sp := spP (α := List KD.Ty) (fun _ => True) (fun a => [TupT a]) (fun a => D (.bool true))
def sp_is_pair : Sp := spP (α := (Nat × Nat) × Nat) (fun a => a.1.1 < a.2 ∧ a.1.2 < a.2) (fun a => [D (pD a.1), D (nI a.2)]) (fun a => D (.bool true))
def sp_Web_len (CW CR : Addr) : Sp := spP (α := W) (fun _ => True) (fun a => [WoT CW a]) (fun a => D (nI a.2.length))
def sp_Web_rooms (CW CR : Addr) : Sp := spP (α := W) (fun _ => True) (fun a => [WoT CW a]) (fun a => D (nI a.1))
def sp_Web_arrows (CW CR : Addr) : Sp := spP (α := W) (fun _ => True) (fun a => [WoT CW a]) (fun a => D (.list (a.2.map pD)))
def sp_Web_has_arrow (CW CR : Addr) : Sp := spP (α := W × Nat) (fun _ => True) (fun a => [WoT CW a.1, D (nI a.2)]) (fun a => D (.bool (decide (a.2 < a.1.2.length))))
def sp_Web_begin (CW CR : Addr) : Sp := spP (α := W × Nat) (fun a => a.2 < a.1.2.length) (fun a => [WoT CW a.1, D (nI a.2)]) (fun a => D (nI (be a.1 a.2)))
def sp_Web_end (CW CR : Addr) : Sp := spP (α := W × Nat) (fun a => a.2 < a.1.2.length) (fun a => [WoT CW a.1, D (nI a.2)]) (fun a => D (nI (en a.1 a.2)))
def sp_Web_on (CW CR : Addr) : Sp := spP (α := W × Nat) (fun a => WOk a.1 ∧ a.2 < a.1.2.length) (fun a => [WoT CW a.1, D (nI a.2)]) (fun a => D (lI (onn a.1 a.2)))
def sp_Web_many (CW CR : Addr) : Sp := spP (α := W × Nat) (fun a => Wb a.1 ∧ a.2 ≤ 60) (fun a => [WoT CW a.1, D (nI a.2)]) (fun a => D (nI (many a.1 a.2)))
def sp_Web_rows (CW CR : Addr) : Sp := spP (α := W × Nat) (fun a => Wb a.1 ∧ a.2 + 1 ≤ 6 ∧ many a.1 (a.2 + 1) ≤ 600) (fun a => [WoT CW a.1, D (nI (a.2 + 1))]) (fun a => D (rsD (rowsN a.1 a.2)))
def sp_Web_init (CW CR : Addr) : Sp := spI (α := W) CW (fun w => Wb w) (fun w => [D (nI w.1), D (.list (w.2.map pD))]) wFs
section
variable {P : Program} {w : World} {K : PySem.W.Frag} {mg : Str → Option Value} {base : Heap}
abbrev t_is_within : Stmt := top 16
theorem sc_is_within : FnScope ["thing", "low", "high"] ["thing", "low", "high"] (defScope t_is_within) := ⟨rfl, rfl, rfl, by decide +kernel, rfl, by decide +kernel, by decide +kernel⟩
theorem ok_is_within {f : Addr} {fd : FuncData} (F : Fun K "is_within" "is_within" t_is_within f fd) (T : Txt mg)
    : FnOk P w K mg base CX0 1 f fd ["thing", "low", "high"] sp_is_within := by
  refine F.ok sc_is_within (fun vs H Q E h => by obtain ⟨_, _, _, _, hv, _⟩ := h; exact hv.len) (fun cdv A outer s H vs Q E hr h => ?_)
  obtain ⟨S, ⟨i, lo, hi⟩, hd, hS, hv, k⟩ := h
  dsimp only at hd hv k
  have g0 : Gr md0 S H S H := Gr.refl (ok0 hS)
  obtain ⟨v1, v2, v3, rfl, h1, h2, h3⟩ := hv.three
  refine ⟨_, (pss_one (ps_ret (pe_and (pe_callB call_isi (by rfl) T.isinstance (by decide +kernel) (pa_cons (pv 0) (pa_cons (pe_bty "int" (by rfl) T.int) pa_nil))) (pe_and (pe_not (pe_callB call_isi (by rfl) T.isinstance (by decide +kernel) (pa_cons (pv 0) (pa_cons (pe_bty "bool" (by rfl) T.bool) pa_nil)))) (pe_one (pe_chain op_le op_le (pv 1) (pv 0) (pv 2))))))), ?_⟩
  refine s_ret ?_ g0 k
  refine Ev.eq (ev_andV (ev_isInt (b := true) (ev_var h1)) fun _ => ev_andV (ev_notV (ev_isInt (b := false) (ev_var h1))) fun _ => ev_chain (ev_var h2) (ev_var h1) (ev_var h3)) ?_
  rfl
abbrev t_is_listed : Stmt := top 17
theorem sc_is_listed : FnScope ["thing"] ["thing"] (defScope t_is_listed) := ⟨rfl, rfl, rfl, by decide +kernel, rfl, by decide +kernel, by decide +kernel⟩
theorem ok_is_listed {f : Addr} {fd : FuncData} (F : Fun K "is_listed" "is_listed" t_is_listed f fd) (T : Txt mg)
    : FnOk P w K mg base CX0 1 f fd ["thing"] sp_is_listed := by
  refine F.ok sc_is_listed (fun vs H Q E h => by obtain ⟨_, _, _, _, hv, _⟩ := h; exact hv.len) (fun cdv A outer s H vs Q E hr h => ?_)
  obtain ⟨S, ts, hd, hS, hv, k⟩ := h
  dsimp only at hd hv k
  have g0 : Gr md0 S H S H := Gr.refl (ok0 hS)
  obtain ⟨v1, rfl, h1⟩ := hv.one
  refine ⟨_, (pss_one (ps_ret (pe_callB call_isiT (by rfl) T.isinstance (by decide +kernel) (pa_cons (pv 0) (pa_cons (pe_tup (pa_cons (pe_bty "list" (by rfl) T.list) (pa_cons (pe_bty "tuple" (by rfl) T.tuple) pa_nil))) pa_nil))))), ?_⟩
  refine s_ret (P := D (.bool true)) ?_ g0 k
  refine ev_cb (ea2 (ev_var h1) (ev_tup (ts := [IsV (.ty "list"), IsV (.ty "tuple")]) (ea2 (fun S1 H R e o k => k _ S1 H (Gr.refl o) rfl) (fun S1 H R e o k => k _ S1 H (Gr.refl o) rfl)))) fun S1 vs e hv H R o k => ?_
  obtain ⟨x, y, rfl, hx, hy⟩ := hv.two
  obtain ⟨a, xs, rfl, a1, a2⟩ := hx
  obtain ⟨b, ys, rfl, b1, b2⟩ := hy
  obtain ⟨p, q, rfl, rfl, rfl⟩ := b2.two
  refine ⟨_, b, _, _, _, true, rfl, o.le _ _ b1, .cons (.ty "list") (.cons (.ty "tuple") .nil), .base (.tup (o.le _ _ a1)), kitAny_cons (kit_ty (b := "list") (r := false) (by decide +kernel)) (fun _ => kitAny_cons (kit_ty (b := "tuple") (r := true) (by decide +kernel)) (fun z => nomatch z) fun _ => rfl) (fun z => nomatch z), k _ _ _ (Gr.refl o) (Dd.bl _)⟩
abbrev t_is_pair : Stmt := top 18
theorem sc_is_pair : FnScope ["thing", "rooms", "one"] ["thing", "rooms"] (defScope t_is_pair) := ⟨rfl, rfl, rfl, by decide +kernel, rfl, by decide +kernel, by decide +kernel⟩
theorem ok_is_pair {f : Addr} {fd : FuncData} (F : Fun K "is_pair" "is_pair" t_is_pair f fd) (T : Txt mg)
    (C_is_listed : Df P w K mg base "is_listed" 1 ["thing"] sp_is_listed)
    (C_is_within : Df P w K mg base "is_within" 1 ["thing", "low", "high"] sp_is_within)
    : FnOk P w K mg base CX0 2 f fd ["thing", "rooms"] sp_is_pair := by
  obtain ⟨f_is_listed, fd_is_listed, G_is_listed, m_is_listed, k_is_listed, b_is_listed⟩ := C_is_listed.ex
  obtain ⟨f_is_within, fd_is_within, G_is_within, m_is_within, k_is_within, b_is_within⟩ := C_is_within.ex
  refine F.ok sc_is_pair (fun vs H Q E h => by obtain ⟨_, _, _, _, hv, _⟩ := h; exact hv.len) (fun cdv A outer s H vs Q E hr h => ?_)
  obtain ⟨S, ⟨p, n⟩, hd, hS, hv, k⟩ := h
  dsimp only at hd hv k
  have g0 : Gr md0 S H S H := Gr.refl (ok0 hS)
  obtain ⟨v1, v2, rfl, h1, h2⟩ := hv.two
  refine ⟨_, (pss_one (ps_ret (pe_and (pe_call G_is_listed (hr.mono (by decide)) (by rfl) m_is_listed k_is_listed b_is_listed .nil pass0 (pa_cons (pv 0) pa_nil)) (pe_and (pe_cmpR op_eq (pe_callB (call_lenK K) (by rfl) T.len PySem.boot_len (pa_cons (pv 0) pa_nil)) pe_int (nomark _)) (pe_one (pe_callB (cr_allK K rfl) (by rfl) T.all (by decide +kernel) (pa_cons (pe_lc (own := [("one", 2)]) (by rfl) sc_is_pair.nd (pi_tupK K (pv 0)) (blkOk_by (own := [("one", 2)]) (N := ["thing", "rooms", "one"]) (sc := defScope t_is_pair) (by decide +kernel)) (fun _ _ _ _ _ => (pg_name (i := 2) sc_is_pair.nd rfl (.inl rfl))) (fun _ _ _ _ _ => pts_nil) (fun _ _ _ _ _ => (pe_call G_is_within (hr.mono (by decide)) (by rfl) m_is_within k_is_within b_is_within .nil pass0 (pa_cons (pv 2) (pa_cons pe_int (pa_cons (pe_op op_sub (pv 1) pe_int) pa_nil)))))) pa_nil))))))), ?_⟩
  obtain ⟨d1, d2⟩ := hd
  refine s_ret ?_ g0 k
  refine Ev.eq (ev_andV (ev_call [D (nI p.1), D (nI p.2)] trivial (ea1 (ev_var (D_tup.1 h1)))) fun _ => ev_andV (Ev.eq (ev_eqI (ev_lenDT (ds := [nI p.1, nI p.2]) (ev_var h1)) ev_int) rfl) fun _ => ev_all (bs := [true, true]) (xl_YD (xs := [p.1, p.2]) (fun _ => PyData.bool true) (ex_tupD (xs := [p.1, p.2]) (enc := nI) (ev_var h1)) (by show 2 ≤ 100000; decide) ?_)) ?_
  · rintro a S1 x e ha hx
    have h2 := (D _).up e h2
    have hl : a < n := by
      rcases List.mem_cons.mp ha with rfl | ha
      · exact d1
      · rw [List.mem_singleton] at ha
        rw [ha]
        exact d2
    refine ⟨_, eg_name, rfl, Ev.eq (ev_call ((a : Int), (0 : Int), ((n : Int) - 1)) trivial (ea3 (ev_var hx) ev_int (ev_opI (ev_var h2) ev_int))) ?_⟩
    show PyData.bool (decide ((0 : Int) ≤ (a : Int)) && decide ((a : Int) ≤ (n : Int) - 1)) = _
    rw [decide_eq_true (by omega), decide_eq_true (by omega)]
    rfl
  · rfl
end
end K49
end
section
set_option linter.all false
set_option maxRecDepth 100000
set_option maxHeartbeats 4000000
namespace K49
open PySem PySem.Spec PyProof.Rows L2 KR KD
section
variable {P : Program} {w : World} {K : PySem.W.Frag} {mg : Str → Option Value} {base : Heap}
abbrev t_Web_len : Stmt := inClass (top 19) 2
theorem sc_Web_len : FnScope ["self"] ["self"] (defScope t_Web_len) := ⟨rfl, rfl, rfl, by decide +kernel, rfl, by decide +kernel, by decide +kernel⟩
theorem ok_Web_len {f : Addr} {fd : FuncData} {CW CR : Addr} (WC : WebC K mg CW) (RC : RdrC K mg CR) (F : Fun K "__len__" "Web.__len__" t_Web_len f fd) (T : Txt mg)
    : FnOk P w K mg base CX0 1 f fd ["self"] (sp_Web_len CW CR) := by
  refine F.ok sc_Web_len (fun vs H Q E h => by obtain ⟨_, _, _, _, hv, _⟩ := h; exact hv.len) (fun cdv A outer s H vs Q E hr h => ?_)
  obtain ⟨S, w, hd, hS, hv, k⟩ := h
  dsimp only at hd hv k
  have g0 : Gr md0 S H S H := Gr.refl (ok0 hS)
  obtain ⟨v1, rfl, h1⟩ := hv.one
  refine ⟨_, (pss_one (ps_ret (pe_callB (call_lenK K) (by rfl) T.len PySem.boot_len (pa_cons (pe_fldK K (pv 0) rfl) pa_nil)))), ?_⟩
  exact s_ret (Ev.eq (ev_lenDT (ev_fld (ev_var h1) WC.cl WC.pairs rfl)) (by rw [List.length_map])) g0 k
abbrev t_Web_rooms : Stmt := inClass (top 19) 4
theorem sc_Web_rooms : FnScope ["self"] ["self"] (defScope t_Web_rooms) := ⟨rfl, rfl, rfl, by decide +kernel, rfl, by decide +kernel, by decide +kernel⟩
theorem ok_Web_rooms {f : Addr} {fd : FuncData} {CW CR : Addr} (WC : WebC K mg CW) (RC : RdrC K mg CR) (F : Fun K "rooms" "Web.rooms" t_Web_rooms f fd) (T : Txt mg)
    : FnOk P w K mg base CX0 1 f fd ["self"] (sp_Web_rooms CW CR) := by
  refine F.ok sc_Web_rooms (fun vs H Q E h => by obtain ⟨_, _, _, _, hv, _⟩ := h; exact hv.len) (fun cdv A outer s H vs Q E hr h => ?_)
  obtain ⟨S, w, hd, hS, hv, k⟩ := h
  dsimp only at hd hv k
  have g0 : Gr md0 S H S H := Gr.refl (ok0 hS)
  obtain ⟨v1, rfl, h1⟩ := hv.one
  refine ⟨_, (pss_one (ps_ret (pe_fldK K (pv 0) rfl))), ?_⟩
  exact s_ret (ev_fld (ev_var h1) WC.cl WC.size rfl) g0 k
abbrev t_Web_arrows : Stmt := inClass (top 19) 5
theorem sc_Web_arrows : FnScope ["self"] ["self"] (defScope t_Web_arrows) := ⟨rfl, rfl, rfl, by decide +kernel, rfl, by decide +kernel, by decide +kernel⟩
theorem ok_Web_arrows {f : Addr} {fd : FuncData} {CW CR : Addr} (WC : WebC K mg CW) (RC : RdrC K mg CR) (F : Fun K "arrows" "Web.arrows" t_Web_arrows f fd) (T : Txt mg)
    : FnOk P w K mg base CX0 1 f fd ["self"] (sp_Web_arrows CW CR) := by
  refine F.ok sc_Web_arrows (fun vs H Q E h => by obtain ⟨_, _, _, _, hv, _⟩ := h; exact hv.len) (fun cdv A outer s H vs Q E hr h => ?_)
  obtain ⟨S, w, hd, hS, hv, k⟩ := h
  dsimp only at hd hv k
  have g0 : Gr md0 S H S H := Gr.refl (ok0 hS)
  obtain ⟨v1, rfl, h1⟩ := hv.one
  refine ⟨_, (pss_one (ps_ret (pe_callTy (call_listK K) (by rfl) T.list (by decide +kernel) (pa_cons (pe_fldK K (pv 0) rfl) pa_nil)))), ?_⟩
  exact s_ret (Ev.conv (ev_listT (Ev.Dtup (ev_fld (ev_var h1) WC.cl WC.pairs rfl))) fun _ _ => D_lst.2) g0 k
abbrev t_Web_has_arrow : Stmt := inClass (top 19) 6
theorem sc_Web_has_arrow : FnScope ["self", "arrow"] ["self", "arrow"] (defScope t_Web_has_arrow) := ⟨rfl, rfl, rfl, by decide +kernel, rfl, by decide +kernel, by decide +kernel⟩
theorem ok_Web_has_arrow {f : Addr} {fd : FuncData} {CW CR : Addr} (WC : WebC K mg CW) (RC : RdrC K mg CR) (F : Fun K "has_arrow" "Web.has_arrow" t_Web_has_arrow f fd) (T : Txt mg)
    (C_is_within : Df P w K mg base "is_within" 1 ["thing", "low", "high"] sp_is_within)
    : FnOk P w K mg base CX0 2 f fd ["self", "arrow"] (sp_Web_has_arrow CW CR) := by
  obtain ⟨f_is_within, fd_is_within, G_is_within, m_is_within, k_is_within, b_is_within⟩ := C_is_within.ex
  refine F.ok sc_Web_has_arrow (fun vs H Q E h => by obtain ⟨_, _, _, _, hv, _⟩ := h; exact hv.len) (fun cdv A outer s H vs Q E hr h => ?_)
  obtain ⟨S, ⟨w, a⟩, hd, hS, hv, k⟩ := h
  dsimp only at hd hv k
  have g0 : Gr md0 S H S H := Gr.refl (ok0 hS)
  obtain ⟨v1, v2, rfl, h1, h2⟩ := hv.two
  refine ⟨_, (pss_one (ps_ret (pe_call G_is_within (hr.mono (by decide)) (by rfl) m_is_within k_is_within b_is_within .nil pass0 (pa_cons (pv 1) (pa_cons pe_int (pa_cons (pe_op op_sub (pe_callB (call_lenK K) (by rfl) T.len PySem.boot_len (pa_cons (pe_fldK K (pv 0) rfl) pa_nil)) pe_int) pa_nil)))))), ?_⟩
  refine s_ret (Ev.eq (ev_call ((a : Int), (0 : Int), (((w.2.map pD).length : Nat) : Int) - 1) trivial (ea3 (ev_var h2) ev_int (ev_opI (ev_lenDT (ev_fld (ev_var h1) WC.cl WC.pairs rfl)) ev_int))) ?_) g0 k
  show PyData.bool (decide ((0 : Int) ≤ (a : Int)) && decide ((a : Int) ≤ (((w.2.map pD).length : Nat) : Int) - 1)) = PyData.bool (decide (a < w.2.length))
  rw [List.length_map, decide_eq_true (show (0 : Int) ≤ (a : Int) by omega), Bool.true_and]
  congr 1
  exact decide_eq_decide.mpr (by omega)
abbrev t_Web_begin : Stmt := inClass (top 19) 8
theorem sc_Web_begin : FnScope ["self", "arrow"] ["self", "arrow"] (defScope t_Web_begin) := ⟨rfl, rfl, rfl, by decide +kernel, rfl, by decide +kernel, by decide +kernel⟩
theorem ok_Web_begin {f : Addr} {fd : FuncData} {CW CR : Addr} (WC : WebC K mg CW) (RC : RdrC K mg CR) (F : Fun K "begin" "Web.begin" t_Web_begin f fd) (T : Txt mg)
    (C_Web_has_arrow : Mf P w K mg base CW "has_arrow" 2 ["self", "arrow"] (sp_Web_has_arrow CW CR))
    : FnOk P w K mg base CX0 3 f fd ["self", "arrow"] (sp_Web_begin CW CR) := by
  obtain ⟨f_Web_has_arrow, fd_Web_has_arrow, G_Web_has_arrow, me_Web_has_arrow, b_Web_has_arrow⟩ := C_Web_has_arrow.ex
  refine F.ok sc_Web_begin (fun vs H Q E h => by obtain ⟨_, _, _, _, hv, _⟩ := h; exact hv.len) (fun cdv A outer s H vs Q E hr h => ?_)
  obtain ⟨S, ⟨w, a⟩, hd, hS, hv, k⟩ := h
  dsimp only at hd hv k
  have g0 : Gr md0 S H S H := Gr.refl (ok0 hS)
  obtain ⟨v1, v2, rfl, h1, h2⟩ := hv.two
  refine ⟨_, (pss_cons (ps_if (pt_not (pt_val (pe_meth (pv 0) WC.cl me_Web_has_arrow G_Web_has_arrow (hr.mono (by decide)) b_Web_has_arrow .nil pass0 (pa_cons (pv 1) pa_nil))))
      (pss_one ps_never)
      pss_nil)
    (pss_one (ps_ret (pe_ix (ix_tupK K) (pe_ix (ix_tupK K) (pe_fldK K (pv 0) rfl) (pv 1) (fun _ _ => rfl)) pe_int (fun _ _ => rfl))))), ?_⟩
  refine q_ifF (et_not (a := true) (et_val (Ev.eq (ev_meth (w, a) trivial (ev_var h1) rfl (ea1 (ev_var h2)) rfl) (by rw [decide_eq_true hd])))) g0 fun S1 H1 g1 e1 => ?_
  exact s_ret (ev_p0 (ev_pr (ev_fld (ev_var ((WoT CW w).up e1.st h1)) WC.cl WC.pairs rfl) (ev_var ((D _).up e1.st h2)) hd)) g1 k
abbrev t_Web_end : Stmt := inClass (top 19) 9
theorem sc_Web_end : FnScope ["self", "arrow"] ["self", "arrow"] (defScope t_Web_end) := ⟨rfl, rfl, rfl, by decide +kernel, rfl, by decide +kernel, by decide +kernel⟩
theorem ok_Web_end {f : Addr} {fd : FuncData} {CW CR : Addr} (WC : WebC K mg CW) (RC : RdrC K mg CR) (F : Fun K "end" "Web.end" t_Web_end f fd) (T : Txt mg)
    (C_Web_has_arrow : Mf P w K mg base CW "has_arrow" 2 ["self", "arrow"] (sp_Web_has_arrow CW CR))
    : FnOk P w K mg base CX0 3 f fd ["self", "arrow"] (sp_Web_end CW CR) := by
  obtain ⟨f_Web_has_arrow, fd_Web_has_arrow, G_Web_has_arrow, me_Web_has_arrow, b_Web_has_arrow⟩ := C_Web_has_arrow.ex
  refine F.ok sc_Web_end (fun vs H Q E h => by obtain ⟨_, _, _, _, hv, _⟩ := h; exact hv.len) (fun cdv A outer s H vs Q E hr h => ?_)
  obtain ⟨S, ⟨w, a⟩, hd, hS, hv, k⟩ := h
  dsimp only at hd hv k
  have g0 : Gr md0 S H S H := Gr.refl (ok0 hS)
  obtain ⟨v1, v2, rfl, h1, h2⟩ := hv.two
  refine ⟨_, (pss_cons (ps_if (pt_not (pt_val (pe_meth (pv 0) WC.cl me_Web_has_arrow G_Web_has_arrow (hr.mono (by decide)) b_Web_has_arrow .nil pass0 (pa_cons (pv 1) pa_nil))))
      (pss_one ps_never)
      pss_nil)
    (pss_one (ps_ret (pe_ix (ix_tupK K) (pe_ix (ix_tupK K) (pe_fldK K (pv 0) rfl) (pv 1) (fun _ _ => rfl)) pe_int (fun _ _ => rfl))))), ?_⟩
  refine q_ifF (et_not (a := true) (et_val (Ev.eq (ev_meth (w, a) trivial (ev_var h1) rfl (ea1 (ev_var h2)) rfl) (by rw [decide_eq_true hd])))) g0 fun S1 H1 g1 e1 => ?_
  exact s_ret (ev_p1 (ev_pr (ev_fld (ev_var ((WoT CW w).up e1.st h1)) WC.cl WC.pairs rfl) (ev_var ((D _).up e1.st h2)) hd)) g1 k
abbrev t_Web_on : Stmt := inClass (top 19) 13
theorem sc_Web_on : FnScope ["self", "arrow"] ["self", "arrow"] (defScope t_Web_on) := ⟨rfl, rfl, rfl, by decide +kernel, rfl, by decide +kernel, by decide +kernel⟩
theorem ok_Web_on {f : Addr} {fd : FuncData} {CW CR : Addr} (WC : WebC K mg CW) (RC : RdrC K mg CR) (F : Fun K "on" "Web.on" t_Web_on f fd) (T : Txt mg)
    : FnOk P w K mg base CX0 1 f fd ["self", "arrow"] (sp_Web_on CW CR) := by
  refine F.ok sc_Web_on (fun vs H Q E h => by obtain ⟨_, _, _, _, hv, _⟩ := h; exact hv.len) (fun cdv A outer s H vs Q E hr h => ?_)
  obtain ⟨S, ⟨w, a⟩, hd, hS, hv, k⟩ := h
  dsimp only at hd hv k
  have g0 : Gr md0 S H S H := Gr.refl (ok0 hS)
  obtain ⟨v1, v2, rfl, h1, h2⟩ := hv.two
  refine ⟨_, (pss_one (ps_ret (pe_ix (ix_listK K) (pe_fldK K (pv 0) rfl) (pe_ix (ix_tupK K) (pe_ix (ix_tupK K) (pe_fldK K (pv 0) rfl) (pv 1) (fun _ _ => rfl)) pe_int (fun _ _ => rfl)) (fun _ _ => rfl)))), ?_⟩
  obtain ⟨ok, ha⟩ := hd
  have hr := (ok.rng a ha).2
  exact s_ret (ev_ixLN (xs := List.range w.1) (enc := fun r => lI (outs w r)) (ev_fld (ev_var h1) WC.cl WC.leaving rfl) (ev_p1 (ev_pr (ev_fld (ev_var h1) WC.cl WC.pairs rfl) (ev_var h2) ha)) (List.getElem?_range hr)) g0 k
abbrev t_Web_many : Stmt := inClass (top 19) 14
theorem sc_Web_many : FnScope ["self", "length", "found", "step", "room", "arrow"] ["self", "length"] (defScope t_Web_many) := ⟨rfl, rfl, rfl, by decide +kernel, rfl, by decide +kernel, by decide +kernel⟩
theorem ok_Web_many {f : Addr} {fd : FuncData} {CW CR : Addr} (WC : WebC K mg CW) (RC : RdrC K mg CR) (F : Fun K "many" "Web.many" t_Web_many f fd) (T : Txt mg)
    (C_is_within : Df P w K mg base "is_within" 1 ["thing", "low", "high"] sp_is_within)
    : FnOk P w K mg base CX0 2 f fd ["self", "length"] (sp_Web_many CW CR) := by
  obtain ⟨f_is_within, fd_is_within, G_is_within, m_is_within, k_is_within, b_is_within⟩ := C_is_within.ex
  refine F.ok sc_Web_many (fun vs H Q E h => by obtain ⟨_, _, _, _, hv, _⟩ := h; exact hv.len) (fun cdv A outer s H vs Q E hr h => ?_)
  obtain ⟨S, ⟨w, n⟩, hd, hS, hv, k⟩ := h
  dsimp only at hd hv k
  have g0 : Gr md0 S H S H := Gr.refl (ok0 hS)
  obtain ⟨v1, v2, rfl, h1, h2⟩ := hv.two
  refine ⟨_, (pss_cons (ps_if (pt_not (pt_val (pe_call G_is_within (hr.mono (by decide)) (by rfl) m_is_within k_is_within b_is_within .nil pass0 (pa_cons (pv 1) (pa_cons pe_int (pa_cons (pe_globI (by rfl) T.MOST_LENGTH) pa_nil))))))
      (pss_one ps_never)
      pss_nil)
    (pss_cons (ps_set (i := 2) sc_Web_many.nd rfl (.inr rfl) (pe_op op_rep (pe_lst (pa_cons pe_int pa_nil)) (pe_fldK K (pv 0) rfl)))
    (pss_cons (ps_for PassesOwn.never rfl (pi_range1 (by rfl) T.range (pa_cons (pv 1) pa_nil)) (pg_name (i := 3) sc_Web_many.nd rfl (.inl rfl))
      (pss_one (ps_set (i := 2) sc_Web_many.nd rfl (.inr rfl) (pe_lc (own := [("room", 4)]) (by rfl) sc_Web_many.nd (pi_range1 (by rfl) T.range (pa_cons (pe_fldK K (pv 0) rfl) pa_nil)) (blkOk_by (own := [("room", 4)]) (N := ["self", "length", "found", "step", "room", "arrow"]) (sc := defScope t_Web_many) (by decide +kernel)) (fun _ _ _ _ _ => (pg_name (i := 4) sc_Web_many.nd rfl (.inl rfl))) (fun _ _ _ _ _ => pts_nil) (fun _ _ _ _ _ => (pe_callB (cr_sumK K rfl) (by rfl) T.sum (by decide +kernel) (pa_cons (pe_lc (own := [("arrow", 5)]) (by rfl) sc_Web_many.nd (pi_listK K (pe_ix (ix_listK K) (pe_fldK K (pv 0) rfl) (pv 4) (fun _ _ => rfl))) (blkOk_by (own := [("arrow", 5)]) (N := ["self", "length", "found", "step", "room", "arrow"]) (sc := { kind := .function, names := [(".0", .local), ("room", .local), ("sum", .globalImplicit), ("found", .cell), ("self", .cell)], isGenerator := false, isCoroutine := false }) (by decide +kernel)) (fun _ _ _ _ _ => (pg_name (i := 5) sc_Web_many.nd rfl (.inl rfl))) (fun _ _ _ _ _ => pts_nil) (fun _ _ _ _ _ => (pe_ix (ix_listK K) (pv 2) (pe_ix (ix_tupK K) (pe_ix (ix_tupK K) (pe_fldK K (pv 0) rfl) (pv 5) (fun _ _ => rfl)) pe_int (fun _ _ => rfl)) (fun _ _ => rfl)))) pa_nil)))))))
    (pss_one (ps_ret (pe_callB (cr_sumK K rfl) (by rfl) T.sum (by decide +kernel) (pa_cons (pv 2) pa_nil))))))), ?_⟩
  obtain ⟨wb, hn⟩ := hd
  have few : w.1 ≤ 50 := wb.few
  have le : w.2.length ≤ 100 := wb.le
  have okw : WOk w := wb.toWOk
  have hn : n ≤ 60 := hn
  refine q_ifF (et_not (a := true) (et_val (Ev.eq (ev_call ((n : Int), (0 : Int), (60 : Int)) trivial (ea3 (ev_var h2) ev_int ev_int)) (by show PyData.bool (decide ((0 : Int) ≤ (n : Int)) && decide ((n : Int) ≤ 60)) = _; rw [decide_eq_true (by omega), decide_eq_true (by omega)]; rfl)))) g0 fun S1 H1 g1 e1 => ?_
  have h1 := (WoT CW w).up e1.st h1
  have h2 := (D _).up e1.st h2
  refine q_asg (P := D (lI (cnt w 0))) (Ev.lstD ?_) g1 fun v3 S2 H2 g2 e2 h3 => ?_
  · have q := ev_rep (md := md0) (S := S1) (ta := tLst (tCons (tC (.int 1)) tNil)) (tb := tFld K (tVar 0) "size") (σ := start ["self", "length", "found", "step", "room", "arrow"] [v1, v2]) (n := w.1) (ev_lst (ea1 (ev_int (i := 1)))) (ev_fld (ev_var h1) WC.cl WC.size rfl) (by omega)
    show Ev _ _ _ _ (LstT (List.map D (List.map nI (List.replicate w.1 1))))
    rw [List.map_replicate, List.map_replicate]
    exact q
  have h1 := (WoT CW w).up e2.st h1
  have h2 := (D _).up e2.st h2
  refine q_for (ex_rng1 (ev_var h2) (by omega)) g2 (fun i σ S' _ => ∃ v x, σ = [some v1, some v2, some v, x, none, none] ∧ (D (lI (cnt w i))).ok S' v) (fun S3 H3 e3 => ⟨v3, none, rfl, (D _).up e3.st h3⟩) ?_ ?_
  · rintro Sb i a σ1 S2 H2 x S3 H3 hi eb g3 e3 ⟨v, x0, rfl, hf⟩ e4 rfl
    have h1 := (WoT CW w).up (eb.trans e3) h1
    have hf := (D _).up e4.st hf
    show tAsg _ (gName 2) _ [some v1, some v2, some v, some (.int (a : Nat)), none, none] _
    refine s_asg (P := D (lI (cnt w (i + 1)))) (Ev.eq (xl_YD (xs := List.range w.1) (fun r => nI ((outs w r).map fun a => (cnt w i).getD (en w a) 0).sum) (ex_rng1 (ev_fld (ev_var h1) WC.cl WC.size rfl) (by omega)) (by rw [List.length_range]; omega) ?_) (lI_map _ _).symm) g3 fun v4 S4 H4 g4 e5 h4 => ⟨S4, g4, e3.trans e5.st, v4, _, rfl, h4⟩
    rintro r S5 x e5 hr rfl
    have h1 := (WoT CW w).up e5 h1
    have hf := (D _).up e5 hf
    refine ⟨_, eg_name, rfl, ev_sumN (Ev.eq (xl_YD (xs := outs w r) (fun a => nI ((cnt w i).getD (en w a) 0)) (ex_listD (enc := nI) (ev_ixLN (xs := List.range w.1) (enc := fun r => lI (outs w r)) (ev_fld (ev_var h1) WC.cl WC.leaving rfl) (ev_var (Dd.int _)) (List.getElem?_range (List.mem_range.mp hr)))) ?_ ?_) (lI_map _ _).symm)⟩
    · have := List.length_filter_le (fun a => decide (be w a = r)) (List.range w.2.length)
      rw [List.length_range] at this
      show (List.filter _ _).length ≤ _
      omega
    · rintro a S6 x e6 ha hx
      have hlt := (mem_outs.mp ha).1
      have hen : en w a < (cnt w i).length := by rw [cnt_len]; exact (okw.rng a hlt).2
      refine ⟨_, eg_name, rfl, ?_⟩
      refine Ev.eq (ev_ixLN (x := (cnt w i)[en w a]) (ev_var ((D _).up e6 hf)) (ev_p1 (ev_pr (ev_fld (ev_var ((WoT CW w).up e6 h1)) WC.cl WC.pairs rfl) (ev_var hx) hlt)) (List.getElem?_eq_getElem hen)) ?_
      rw [List.getD_eq_getElem?_getD, List.getElem?_eq_getElem hen]
      rfl
  · rintro σ1 S2 H2 g2 e2 ⟨v, x, rfl, hf⟩
    rw [List.length_range] at hf
    exact s_ret (ev_sumN (ev_var hf)) g2 k
abbrev t_Web_rows : Stmt := inClass (top 19) 16
theorem sc_Web_rows : FnScope ["self", "length", "found", "step", "arrow", "row"] ["self", "length"] (defScope t_Web_rows) := ⟨rfl, rfl, rfl, by decide +kernel, rfl, by decide +kernel, by decide +kernel⟩
theorem ok_Web_rows {f : Addr} {fd : FuncData} {CW CR : Addr} (WC : WebC K mg CW) (RC : RdrC K mg CR) (F : Fun K "rows" "Web.rows" t_Web_rows f fd) (T : Txt mg)
    (C_Web_many : Mf P w K mg base CW "many" 2 ["self", "length"] (sp_Web_many CW CR))
    (C_Web_on : Mf P w K mg base CW "on" 1 ["self", "arrow"] (sp_Web_on CW CR))
    (C_is_within : Df P w K mg base "is_within" 1 ["thing", "low", "high"] sp_is_within)
    : FnOk P w K mg base CX0 3 f fd ["self", "length"] (sp_Web_rows CW CR) := by
  obtain ⟨f_Web_many, fd_Web_many, G_Web_many, me_Web_many, b_Web_many⟩ := C_Web_many.ex
  obtain ⟨f_Web_on, fd_Web_on, G_Web_on, me_Web_on, b_Web_on⟩ := C_Web_on.ex
  obtain ⟨f_is_within, fd_is_within, G_is_within, m_is_within, k_is_within, b_is_within⟩ := C_is_within.ex
  refine F.ok sc_Web_rows (fun vs H Q E h => by obtain ⟨_, _, _, _, hv, _⟩ := h; exact hv.len) (fun cdv A outer s H vs Q E hr h => ?_)
  obtain ⟨S, ⟨w, n⟩, hd, hS, hv, k⟩ := h
  dsimp only at hd hv k
  have g0 : Gr md0 S H S H := Gr.refl (ok0 hS)
  obtain ⟨v1, v2, rfl, h1, h2⟩ := hv.two
  refine ⟨_, (pss_cons (ps_if (pt_not (pt_val (pe_call G_is_within (hr.mono (by decide)) (by rfl) m_is_within k_is_within b_is_within .nil pass0 (pa_cons (pv 1) (pa_cons pe_int (pa_cons (pe_globI (by rfl) T.MOST_WINDOW) pa_nil))))))
      (pss_one ps_never)
      pss_nil)
    (pss_cons (ps_if (pt_cmpR op_gt (pe_meth (pv 0) WC.cl me_Web_many G_Web_many (hr.mono (by decide)) b_Web_many .nil pass0 (pa_cons (pv 1) pa_nil)) (pe_globI (by rfl) T.MOST_ROWS) (nomark _))
      (pss_one ps_never)
      pss_nil)
    (pss_cons (ps_setLc (i := 2) (own := [("arrow", 4)]) (by rfl) sc_Web_rows.nd rfl rfl (sw_true rfl rfl rfl (by decide +kernel)) (pi_range1 (by rfl) T.range (pa_cons (pe_callB (call_lenK K) (by rfl) T.len PySem.boot_len (pa_cons (pe_fldK K (pv 0) rfl) pa_nil)) pa_nil)) (blkOk_by (own := [("arrow", 4)]) (N := ["self", "length", "found", "step", "arrow", "row"]) (sc := defScope t_Web_rows) (by decide +kernel)) (fun _ _ _ _ _ => (pg_name (i := 4) sc_Web_rows.nd rfl (.inl rfl))) (fun _ _ _ _ _ => pts_nil) (fun _ _ _ _ _ => (pe_tup (pa_cons (pv 4) pa_nil))))
    (pss_cons (ps_for PassesOwn.never rfl (pi_range1 (by rfl) T.range (pa_cons (pe_op op_sub (pv 1) pe_int) pa_nil)) (pg_name (i := 3) sc_Web_rows.nd rfl (.inl rfl))
      (pss_one (ps_setLc2 (vs1 := [4]) (i := 2) (own := [("row", 5), ("arrow", 4)]) (by rfl) sc_Web_rows.nd rfl rfl (sw_true rfl rfl rfl (by decide +kernel)) (pi_listK K (pv 2)) (blkOk_by (own := [("row", 5), ("arrow", 4)]) (N := ["self", "length", "found", "step", "arrow", "row"]) (sc := defScope t_Web_rows) (by decide +kernel)) (by decide) (fun _ _ _ _ _ => (pg_name (i := 5) sc_Web_rows.nd rfl (.inl rfl))) (fun _ _ _ _ _ => pts_nil) (fun _ _ _ _ _ => (pi_listK K (pe_meth (pv 0) WC.cl me_Web_on G_Web_on (hr.mono (by decide)) b_Web_on .nil pass0 (pa_cons (pe_ix (ix_tupK K) (pv 5) (pe_un un_neg pe_int) (fun _ _ => rfl)) pa_nil)))) (fun _ _ _ _ _ => (pg_name (i := 4) sc_Web_rows.nd rfl (.inl rfl))) (fun _ _ _ _ _ => pts_nil) (fun _ _ _ _ _ => (pe_op (op_catAK K) (pv 5) (pe_tup (pa_cons (pv 4) pa_nil)))))))
    (pss_one (ps_ret (pv 2))))))), ?_⟩
  obtain ⟨wb, hn, hm⟩ := hd
  have few : w.1 ≤ 50 := wb.few
  have le : w.2.length ≤ 100 := wb.le
  have okw : WOk w := wb.toWOk
  have wb : Wb w := wb
  have hn : n + 1 ≤ 6 := hn
  have hm : many w (n + 1) ≤ 600 := hm
  have hmj : ∀ j, j ≤ n → (rowsN w j).length ≤ 600 := fun j hj => rows_card okw hm hj
  refine q_ifF (et_not (a := true) (et_val (Ev.eq (ev_call (((n + 1 : Nat) : Int), (1 : Int), (6 : Int)) trivial (ea3 (ev_var h2) ev_int ev_int)) (by show PyData.bool (decide ((1 : Int) ≤ ((n + 1 : Nat) : Int)) && decide (((n + 1 : Nat) : Int) ≤ 6)) = _; rw [decide_eq_true (by omega), decide_eq_true (by omega)]; rfl)))) g0 fun S1 H1 g1 e1 => ?_
  have h1 := (WoT CW w).up e1.st h1
  have h2 := (D _).up e1.st h2
  refine q_ifF (et_val (Ev.eq (ev_opB (ev_meth (w, n + 1) ⟨wb, by show n + 1 ≤ 60; omega⟩ (ev_var h1) rfl (ea1 (ev_var h2)) rfl) ev_int) (by show PyData.bool (decide ((600 : Int) < (many w (n + 1) : Nat))) = _; rw [decide_eq_false (by omega)]))) g1 fun S2 H2 g2 e2 => ?_
  have h1 := (WoT CW w).up e2.st h1
  have h2 := (D _).up e2.st h2
  refine q_asg (P := D (rsD (rowsN w 0))) (Ev.eq (xl_YD (xs := List.range w.2.length) (fun a => tI [a]) (ex_rng1 (Ev.eq (ev_lenDT (ev_fld (ev_var h1) WC.cl WC.pairs rfl)) (by rw [List.length_map])) (by omega)) (by rw [List.length_range]; omega) ?_) ?_) g2 fun v3 S3 H3 g3 e3 h3 => ?_
  · rintro a S1 x e ha rfl
    exact ⟨_, eg_name, rfl, ev_tupD (ds := [nI a]) (ea1 (ev_var (Dd.int _)))⟩
  · unfold rsD rowsN
    rw [List.map_map]
    rfl
  have h1 := (WoT CW w).up e3.st h1
  have h2 := (D _).up e3.st h2
  refine q_for (xs := List.range n) (ex_rng1 (Ev.eq (ev_opI (g := fun i j => i - j) (ev_var h2) ev_int) (by show PyData.int _ = PyData.int _; congr 1; omega)) (by omega)) g3 (fun i σ S' _ => ∃ v x, σ = [some v1, some v2, some v, x, none, none] ∧ (D (rsD (rowsN w i))).ok S' v) (fun S4 H4 e4 => ⟨v3, none, rfl, (D _).up e4.st h3⟩) ?_ ?_
  · rintro Sb i a σ1 S4 H4 x S5 H5 hi eb g5 e5 ⟨v, x0, rfl, hf⟩ e6 rfl
    have hin : i < n := by
      have := (List.getElem?_eq_some_iff.mp hi).1
      simpa using this
    have h1 := (WoT CW w).up (eb.trans e5) h1
    have hf := (D _).up e6.st hf
    have eqr : rsD (rowsN w (i + 1)) = .list ((rowsN w i).flatMap fun r => (onn w (lst0 r)).map fun a => tI (r ++ [a])) := by
      show PyData.list (((rowsN w i).flatMap fun r => (onn w (lst0 r)).map fun a => r ++ [a]).map tI) = _
      rw [List.map_flatMap]
      congr 2
      funext r
      rw [List.map_map]
      rfl
    show tAsg _ (gName 2) _ [some v1, some v2, some v, some (.int (a : Nat)), none, none] _
    refine s_asg (P := D (rsD (rowsN w (i + 1)))) (Ev.eq (ev_lc2 (xs := rowsN w i) (fun r => onn w (lst0 r)) (fun r a S x => (D (nI a)).ok S x) (fun r a => tI (r ++ [a])) (ex_listD (enc := tI) (ev_var hf)) ?_ ?_) eqr.symm) g5 fun v4 S6 H6 g6 e7 h4 => ⟨S6, g6, e5.trans e7.st, v4, _, rfl, h4⟩
    · have e : ((rowsN w i).flatMap fun r => (onn w (lst0 r)).map fun a => tI (r ++ [a])).length = (rowsN w (i + 1)).length := by
        have := congrArg (fun d => match d with | PyData.list ds => ds.length | _ => 0) eqr
        simp only [rsD, List.length_map] at this
        exact this.symm
      rw [e]
      have := hmj (i + 1) (by omega)
      omega
    · rintro r S7 y e7 hr hy
      have h1 := (WoT CW w).up e7 h1
      have hll := rowsN_last hr
      refine ⟨_, eg_name, rfl, ex_listD (enc := nI) (ev_meth (w, lst0 r) ⟨okw, hll⟩ (ev_var h1) rfl (ea1 (ev_lastT (ev_var hy) (rowsN_ne hr) ev_neg1)) rfl), ?_⟩
      rintro b S8 z e8 hb hz
      refine ⟨_, eg_name, rfl, ?_⟩
      rw [tI_snoc]
      refine Ev.tupD ?_
      rw [List.map_append]
      refine ev_catA (Ev.Dtup (ev_var ((D _).up e8 hy))) (ev_tup (ts := [D (nI b)]) (ea1 (ev_var hz))) ?_
      have := (mem_rowsN.mp hr).1
      simp
      omega
  · rintro σ1 S4 H4 g4 e4 ⟨v, x, rfl, hf⟩
    rw [List.length_range] at hf
    exact s_ret (ev_var hf) g4 k
end
end K49
end
section
set_option linter.all false
set_option maxRecDepth 100000
set_option maxHeartbeats 4000000
namespace K49
open PySem PySem.Spec PyProof.Rows L2 KR KD
def sp_Web_eq (CW CR : Addr) : Sp := spP (α := W) (fun _ => True) (fun a => [WoT CW a, WoT CW a]) (fun _ => D (.bool true))
theorem shp_tps (ps : List (Nat × Nat)) : Shp 3 (.tuple (ps.map pD)) := shp_tm shp_pD ps
section
variable {P : Program} {w : World} {K : PySem.W.Frag} {mg : Str → Option Value} {base : Heap}
abbrev t_Web_eq : Stmt := inClass (top 19) 1
theorem sc_Web_eq : FnScope ["self", "other"] ["self", "other"] (defScope t_Web_eq) := ⟨rfl, rfl, rfl, by decide +kernel, rfl, by decide +kernel, by decide +kernel⟩
theorem ok_Web_eq {f : Addr} {fd : FuncData} {CW CR : Addr} (WC : WebC K mg CW) (RC : RdrC K mg CR) (F : Fun K "__eq__" "Web.__eq__" t_Web_eq f fd) (T : Txt mg)
    : FnOk P w K mg base CX0 1 f fd ["self", "other"] (sp_Web_eq CW CR) := by
  refine F.ok sc_Web_eq (fun vs H Q E h => by obtain ⟨_, _, _, _, hv, _⟩ := h; exact hv.len) (fun cdv A outer s H vs Q E hr h => ?_)
  obtain ⟨S, w, hd, hS, hv, k⟩ := h
  dsimp only at hd hv k
  have g0 : Gr md0 S H S H := Gr.refl (ok0 hS)
  obtain ⟨v1, v2, rfl, h1, h2⟩ := hv.two
  refine ⟨_, (pss_one (ps_ret (pe_and (pe_callB call_isi (by rfl) T.isinstance (by decide +kernel) (pa_cons (pv 1) (pa_cons (pe_globC (by rfl) WC.mg) pa_nil))) (pe_and (pe_cmpR op_eq (pe_fldK K (pv 0) rfl) (pe_fldK K (pv 1) rfl) (nomark _)) (pe_one (pe_cmpR (op_eqDK K hr.units) (pe_fldK K (pv 0) rfl) (pe_fldK K (pv 1) rfl) (nomark _))))))), ?_⟩
  refine s_ret ?_ g0 k
  refine Ev.eq (ev_andV (ev_isIns (ev_var h2) WC.ty WC.one) fun _ => ev_andV (ev_eqN (ev_fld (ev_var h1) WC.cl WC.size rfl) (ev_fld (ev_var h2) WC.cl WC.size rfl)) fun _ => ev_eqD (ev_fld (ev_var h1) WC.cl WC.pairs rfl) (ev_fld (ev_var h2) WC.cl WC.pairs rfl) (shp_tps w.2).shaped (shp_tps w.2).shaped) ?_
  rw [eqv_same (shp_tps w.2), decide_eq_true rfl]
  rfl
abbrev t_Web_init : Stmt := inClass (top 19) 0
theorem sc_Web_init : FnScope ["self", "rooms", "arrows", "at", "pair", "room"] ["self", "rooms", "arrows"] (defScope t_Web_init) := ⟨rfl, rfl, rfl, by decide +kernel, rfl, by decide +kernel, by decide +kernel⟩
theorem ok_Web_init {f : Addr} {fd : FuncData} {CW CR : Addr} (WC : WebC K mg CW) (RC : RdrC K mg CR) (F : Fun K "__init__" "Web.__init__" t_Web_init f fd) (T : Txt mg)
    (C_is_pair : Df P w K mg base "is_pair" 2 ["thing", "rooms"] sp_is_pair)
    (C_is_within : Df P w K mg base "is_within" 1 ["thing", "low", "high"] sp_is_within)
    : FnOk P w K mg base CX0 3 f fd ["self", "rooms", "arrows"] (sp_Web_init CW CR) := by
  obtain ⟨f_is_pair, fd_is_pair, G_is_pair, m_is_pair, k_is_pair, b_is_pair⟩ := C_is_pair.ex
  obtain ⟨f_is_within, fd_is_within, G_is_within, m_is_within, k_is_within, b_is_within⟩ := C_is_within.ex
  refine F.ok sc_Web_init (fun vs H Q E h => by obtain ⟨_, _, _, _, _, _, _, rfl, _, _, hv, _⟩ := h; rw [List.length_cons, hv.len]; rfl) (fun cdv A outer s H vs Q E hr h => ?_)
  obtain ⟨S, Hb, w, x, dx, ws, wb, rfl, g0, w0, hv, k⟩ := h
  obtain ⟨v2, v3, rfl, h2, h3⟩ := hv.two
  refine ⟨_, (pss_cons (ps_if (pt_not (pt_val (pe_call G_is_within (hr.mono (by decide)) (by rfl) m_is_within k_is_within b_is_within .nil pass0 (pa_cons (pv 1) (pa_cons pe_int (pa_cons (pe_globI (by rfl) T.MOST_ROOMS) pa_nil))))))
      (pss_one ps_never)
      pss_nil)
    (pss_cons (ps_for PassesOwn.never rfl (pi_enumK K (by rfl) T.enumerate (pa_cons (pv 2) pa_nil)) (pg_tupK K (n := 2) rfl (pgs_cons (pg_name (i := 3) sc_Web_init.nd rfl (.inl rfl)) (pgs_cons (pg_name (i := 4) sc_Web_init.nd rfl (.inl rfl)) pgs_nil)))
      (pss_one (ps_if (PW.pt (pw_or (pt_cmpR op_eq (pv 3) (pe_globI (by rfl) T.MOST_ARROWS) (nomark _)) (pw_or1 (pt_not (pt_val (pe_call G_is_pair (hr.mono (by decide)) (by rfl) m_is_pair k_is_pair b_is_pair .nil pass0 (pa_cons (pv 4) (pa_cons (pv 1) pa_nil))))))))
        (pss_one ps_never)
        pss_nil)))
    (pss_cons (ps_fld (pv 0) (pv 1) rfl)
    (pss_cons (ps_fld (pv 0) (pe_callTy (call_tupleK K) (by rfl) T.tuple (by decide +kernel) (pa_cons (pe_lc (own := [("pair", 4)]) (by rfl) sc_Web_init.nd (pi_listK K (pv 2)) (blkOk_by (own := [("pair", 4)]) (N := ["self", "rooms", "arrows", "at", "pair", "room"]) (sc := defScope t_Web_init) (by decide +kernel)) (fun _ _ _ _ _ => (pg_name (i := 4) sc_Web_init.nd rfl (.inl rfl))) (fun _ _ _ _ _ => pts_nil) (fun _ _ _ _ _ => (pe_callTy (call_tupleK K) (by rfl) T.tuple (by decide +kernel) (pa_cons (pv 4) pa_nil)))) pa_nil)) rfl)
    (pss_cons (ps_fld (pv 0) (pe_lc (own := [("room", 5)]) (by rfl) sc_Web_init.nd (pi_range1 (by rfl) T.range (pa_cons (pv 1) pa_nil)) (blkOk_by (own := [("room", 5)]) (N := ["self", "rooms", "arrows", "at", "pair", "room"]) (sc := defScope t_Web_init) (by decide +kernel)) (fun _ _ _ _ _ => (pg_name (i := 5) sc_Web_init.nd rfl (.inr rfl))) (fun _ _ _ _ _ => pts_nil) (fun _ _ _ _ _ => (pe_lc (own := [("at", 3), ("pair", 4)]) (by rfl) sc_Web_init.nd (pi_enumTK K (by rfl) T.enumerate (pa_cons (pe_fldK K (pv 0) rfl) pa_nil)) (blkOk_by (own := [("at", 3), ("pair", 4)]) (N := ["self", "rooms", "arrows", "at", "pair", "room"]) (sc := { kind := .function, names := [(".0", .local), ("room", .cell), ("enumerate", .globalImplicit), ("self", .cell)], isGenerator := false, isCoroutine := false }) (by decide +kernel)) (fun _ _ _ _ _ => (pg_tupK K (n := 2) rfl (pgs_cons (pg_name (i := 3) sc_Web_init.nd rfl (.inl rfl)) (pgs_cons (pg_name (i := 4) sc_Web_init.nd rfl (.inl rfl)) pgs_nil)))) (fun _ _ _ _ _ => (pts_one (pt_cmpR op_eq (pe_ix (ix_tupK K) (pv 4) pe_int (fun _ _ => rfl)) (pv 5) (nomark _)))) (fun _ _ _ _ _ => (pv 3))))) rfl)
    (pss_cons (ps_fld (pv 0) (pe_lc (own := [("room", 5)]) (by rfl) sc_Web_init.nd (pi_range1 (by rfl) T.range (pa_cons (pv 1) pa_nil)) (blkOk_by (own := [("room", 5)]) (N := ["self", "rooms", "arrows", "at", "pair", "room"]) (sc := defScope t_Web_init) (by decide +kernel)) (fun _ _ _ _ _ => (pg_name (i := 5) sc_Web_init.nd rfl (.inr rfl))) (fun _ _ _ _ _ => pts_nil) (fun _ _ _ _ _ => (pe_lc (own := [("at", 3), ("pair", 4)]) (by rfl) sc_Web_init.nd (pi_enumTK K (by rfl) T.enumerate (pa_cons (pe_fldK K (pv 0) rfl) pa_nil)) (blkOk_by (own := [("at", 3), ("pair", 4)]) (N := ["self", "rooms", "arrows", "at", "pair", "room"]) (sc := { kind := .function, names := [(".0", .local), ("room", .cell), ("enumerate", .globalImplicit), ("self", .cell)], isGenerator := false, isCoroutine := false }) (by decide +kernel)) (fun _ _ _ _ _ => (pg_tupK K (n := 2) rfl (pgs_cons (pg_name (i := 3) sc_Web_init.nd rfl (.inl rfl)) (pgs_cons (pg_name (i := 4) sc_Web_init.nd rfl (.inl rfl)) pgs_nil)))) (fun _ _ _ _ _ => (pts_one (pt_cmpR op_eq (pe_ix (ix_tupK K) (pv 4) pe_int (fun _ _ => rfl)) (pv 5) (nomark _)))) (fun _ _ _ _ _ => (pv 3))))) rfl)
    (pss_one (ps_if (pt_cmpR (op_inDK K (u65 hr)) (pe_lst pa_nil) (pe_fldK K (pv 0) rfl) (by rfl))
      (pss_one ps_never)
      pss_nil)))))))), ?_⟩
  have few : w.1 ≤ 50 := wb.few
  have le : w.2.length ≤ 100 := wb.le
  have okw : WOk w := wb.toWOk
  have pos := okw.pos
  refine q_ifF (et_not (a := true) (et_val (Ev.eq (ev_call ((w.1 : Int), (1 : Int), (100 : Int)) trivial (ea3 (ev_var h2) ev_int ev_int)) (by show PyData.bool (decide ((1 : Int) ≤ (w.1 : Int)) && decide ((w.1 : Int) ≤ 100)) = _; rw [decide_eq_true (by omega), decide_eq_true (by omega)]; rfl)))) g0 fun S1 H1 g1 e1 => ?_
  have h2 := (D _).up e1.st h2
  have h3 := (D _).up e1.st h3
  refine q_for (ex_enumLD (xs := w.2) (enc := pD) (ev_var h3)) g1 (fun i σ S' H' => ∃ (y z : Option V), σ = [some (.ref x), some v2, some v3, y, z, none] ∧ Own md0 S Hb S' H' x (.ins CW dx [])) (fun S2 H2 e2 => ⟨none, none, rfl, (w0.step g0 e1).step g1 e2⟩) ?_ ?_
  · rintro Sb i a σ1 S2 H2 u S3 H3 hi eb g3 e3 ⟨y, z, rfl, w2⟩ e4 ⟨q, v, pp, rfl, hq, hpp, hv⟩
    obtain ⟨rfl, hlt⟩ : a = i ∧ i < w.2.length := by
      have := List.getElem?_eq_some_iff.mp hi
      exact ⟨by simpa using this.2.symm, by simpa using this.1⟩
    have hp : pp = pr w a := by
      rw [pr_at hlt] at hpp
      exact (Option.some.inj hpp).symm
    subst hp
    have h2 := (D _).up (eb.trans e3) h2
    have w3 := w2.step g3 e4
    refine eg_pair hq H3 _ g3.k.le ?_
    show tIfS _ _ _ _ [some (.ref x), some v2, some v3, some (.int (a : Nat)), some v, none] _
    refine s_if (b := false) (et_or (a := false) (b := false) (et_val (Ev.eq (ev_eqI (ev_var (Dd.int _)) ev_int) (by congr 1; exact decide_eq_false (by omega)))) fun _ => et_not (a := true) (et_val (ev_call (pr w a, w.1) (okw.rng a hlt) (ea2 (ev_var hv) (ev_var h2))))) g3 (fun z => nomatch z) fun _ S4 H4 g4 e5 => ⟨S4, g4, e3.trans e5.st, _, _, rfl, w3.step g3 e5⟩
  · rintro σ1 S2 H2 g2 e2 ⟨y, z, rfl, w2⟩
    have h2 := (D _).up e2 h2
    have h3 := (D _).up e2 h3
    refine q_fld (P := D (nI w.1)) (ev_var h2) ha_var WC.cl WC.size g2 w2 (by show 0 < 1000; decide) fun u1 S3 H3 g3 e3 w3 f1 => ?_
    have h2 := (D _).up e3 h2
    have h3 := (D _).up e3 h3
    refine q_fld (P := D (.tuple (w.2.map pD))) (Ev.conv (ev_tupleL (Ev.Dlst (xl_YD (xs := w.2) pD (ex_listD (ev_var h3)) (by omega) ?_))) fun _ _ => D_tup.2) ha_var WC.cl WC.pairs g3 w3 (by show 1 < 1000; decide) fun u2 S4 H4 g4 e4 w4 f2 => ?_
    · rintro p S9 y e9 hp hy
      exact ⟨_, eg_name, rfl, Ev.conv (ev_tupleT (Ev.Dtup (ds := [nI p.1, nI p.2]) (ev_var hy))) fun _ _ => (D_tup (ds := [nI p.1, nI p.2])).2⟩
    have h2 := (D _).up e4 h2
    have f1 := (D _).up e4 f1
    -- the rooms' arrows, by an end
    have rows : ∀ (pick : Nat × Nat → Nat) (tp : TE → TE) {S5 : Hp} (fs : List (Str × KD.Ty)) (_ : fs.lookup ("pairs" : Str) = some (D (.tuple (w.2.map pD)))) (_ : (D (nI w.1)).ok S5 v2) (_ : (InsT CW fs).ok S5 (.ref x)) (y z : Option V), (∀ (S : Hp) (σ : L2.St) (te : TE) (p : Nat × Nat), Ev md0 S te σ (D (pD p)) → Ev md0 S (tp te) σ (D (nI (pick p)))) →
        Ev md0 S5 (tLc (iRng1 (tCons (tVar 1) tNil)) (gName 5) tYes (tLc (iEnumT K (tCons (tFld K (tVar 0) "pairs") tNil)) (gTup K 2 (gCons (gName 3) (gCons (gName 4) gNil))) (tTest (tOp rEq (tp (tVar 4)) (tVar 5))) (tVar 3) [3, 4]) [5]) [some (.ref x), some v2, some v3, y, z, none]
          (D (.list ((List.range w.1).map fun r => lI ((List.range w.2.length).filter fun a => decide (pick (pr w a) = r))))) := fun pick tp S5 fs hfs h2 hx y z htp => by
      refine xl_YD (xs := List.range w.1) (fun r => lI ((List.range w.2.length).filter fun a => decide (pick (pr w a) = r))) (ex_rng1 (ev_var h2) (by omega)) (by rw [List.length_range]; omega) ?_
      rintro r S6 x6 e6 hr rfl
      have hx := (InsT CW fs).up e6 hx
      refine ⟨_, eg_name, rfl, Ev.eq (xl_D (xs := List.range w.2.length) (fun a => decide (pick (pr w a) = r)) nI (ex_enumTD (xs := w.2) (enc := pD) (ev_fld (ev_var hx) WC.cl WC.pairs hfs)) (by rw [List.length_range]; omega) ?_) rfl⟩
      rintro a S7 x7 e7 ha ⟨q, v, pp, rfl, hq, hpp, hv⟩
      have hp : pp = pr w a := by
        rw [pr_at (List.mem_range.mp ha)] at hpp
        exact (Option.some.inj hpp).symm
      subst hp
      exact ⟨_, eg_pair hq, rfl, et_val (ev_eqN (htp _ _ _ _ (ev_var hv)) (ev_var (Dd.int _))), fun _ => ev_var (Dd.int _)⟩
    have obj4 : (InsT CW [("size", D (nI w.1)), ("pairs", D (.tuple (w.2.map pD)))]).ok (L2.upd S4 x (.ins CW dx [("size", u1), ("pairs", u2)])) (.ref x) := ⟨x, dx, [u1, u2], rfl, upd_same, .cons ((D _).up w4.puts f1) (.cons ((D _).up w4.puts f2) .nil)⟩
    have w4 : Own md0 S Hb S4 H4 x (.ins CW dx [("size", u1), ("pairs", u2)]) := w4
    refine q_fldD (d := .list ((List.range w.1).map fun r => lI (outs w r))) w4 (rows Prod.fst (fun t => tOp (rIxT K) t (tC (.int 0))) _ rfl ((D _).up w4.puts h2) obj4 y z fun S σ te p h => ev_p0 h) ha_var WC.cl WC.leaving g4 (by show 2 < 1000; decide) fun u3 S5 H5 g5 e5 w5 f3 => ?_
    have h2 := (D _).up e5 h2
    have f1 := (D _).up e5 f1
    have f2 := (D _).up e5 f2
    have w5 : Own md0 S Hb S5 H5 x (.ins CW dx [("size", u1), ("pairs", u2), ("leaving", u3)]) := w5
    have obj5 : (InsT CW [("size", D (nI w.1)), ("pairs", D (.tuple (w.2.map pD))), ("leaving", D (.list ((List.range w.1).map fun r => lI (outs w r))))]).ok (L2.upd S5 x (.ins CW dx [("size", u1), ("pairs", u2), ("leaving", u3)])) (.ref x) := ⟨x, dx, [u1, u2, u3], rfl, upd_same, .cons ((D _).up w5.puts f1) (.cons ((D _).up w5.puts f2) (.cons ((D _).up w5.puts f3) .nil))⟩
    refine q_fldD (d := .list ((List.range w.1).map fun r => lI (ins w r))) w5 (rows Prod.snd (fun t => tOp (rIxT K) t (tC (.int 1))) _ rfl ((D _).up w5.puts h2) obj5 y z fun S σ te p h => ev_p1 h) ha_var WC.cl WC.coming g5 (by show 3 < 1000; decide) fun u4 S6 H6 g6 e6 w6 f4 => ?_
    have f1 := (D _).up e6 f1
    have f2 := (D _).up e6 f2
    have f3 := (D _).up e6 f3
    have w6 : Own md0 S Hb S6 H6 x (.ins CW dx [("size", u1), ("pairs", u2), ("leaving", u3), ("coming", u4)]) := w6
    have obj6 : (WoT CW w).ok (L2.upd S6 x (.ins CW dx [("size", u1), ("pairs", u2), ("leaving", u3), ("coming", u4)])) (.ref x) := ⟨x, dx, [u1, u2, u3, u4], rfl, upd_same, .cons ((D _).up w6.puts f1) (.cons ((D _).up w6.puts f2) (.cons ((D _).up w6.puts f3) (.cons ((D _).up w6.puts f4) .nil)))⟩
    have none_empty : (((List.range w.1).map fun r => lI (outs w r)).any fun z => PyData.eqv z (.list [])) = false := by
      rw [List.any_eq_false]
      intro d hd
      obtain ⟨r, hr, rfl⟩ := List.mem_map.mp hd
      have ne := okw.outs_ne (List.mem_range.mp hr)
      rw [show PyData.eqv (lI (outs w r)) (.list []) = ((outs w r).map nI).isEmpty from eqv_nilR _]
      cases q : outs w r with
      | nil => exact absurd q ne
      | cons a l => exact Bool.false_ne_true
    have shp : Shp 3 (.list ((List.range w.1).map fun r => lI (outs w r))) := shp_lm (fun r => shp_lI _) _
    have cmp : EvT md0 (L2.upd S6 x (.ins CW dx [("size", u1), ("pairs", u2), ("leaving", u3), ("coming", u4)])) (tTest (tOp (rInD K) (tLst tNil) (tFld K (tVar 0) "leaving"))) [some (.ref x), some v2, some v3, y, z, none] false := et_val (Ev.eq (ev_inD (ev_lstD (ds := []) ea_nil) (ev_fld (ev_var obj6) WC.cl WC.leaving rfl) shp_nil.shaped shp.shaped) (by rw [none_empty]))
    refine w6.peekT g6 cmp fun S7 H7 g7 e7 w7 => ?_
    refine iteF ?_
    exact k S7 H7 [u1, u2, u3, u4] g7 w7 (.cons ((D _).up e7.st f1) (.cons ((D _).up e7.st f2) (.cons ((D _).up e7.st f3) (.cons ((D _).up e7.st f4) .nil))))
end
end K49
end
section
set_option linter.all false
set_option maxRecDepth 100000
set_option maxHeartbeats 4000000
namespace K49
open PySem PySem.Spec PyProof.Rows L2 KR KD KB
def intsN (r : List Nat) : List Int := r.map fun n : Nat => (n : Int)
theorem thash_eq (P : Program) (w : World) (r : List Nat) : thash P w (intsN r) = (tupleKind (mixKind P w)).hash (keyN r) := by
  show reduceHash (Builtin.Tuple.tupleHashOf ((intsN r).map (intKind P w).hash)) = reduceHash (Builtin.Tuple.tupleHashOf ((keyN r).map (mixKind P w).hash))
  unfold intsN keyN
  rw [List.map_map, List.map_map]
  rfl
theorem rows_hash {P : Program} {wo : World} {w : W} {j : Nat} (hj : j ≤ 4) (ha : w.2.length ≤ 9) : ((rowsN w j).map fun r => (tupleKind (mixKind P wo)).hash (keyN r)).Nodup := by
  refine List.pairwise_map.mpr ?_
  have nd := rowsN_nodup w j
  unfold List.Nodup at nd
  have nd2 := List.Pairwise.and_mem.mp nd
  refine nd2.imp fun {a b} h e => h.2.2 ?_
  obtain ⟨la, ia⟩ := mem_rowsN.mp h.1
  obtain ⟨lb, ib⟩ := mem_rowsN.mp h.2.1
  exact hash_inj (n := j + 1) (by omega) la lb (fun x hx => by have := ia.1 x hx; omega) (fun x hx => by have := ib.1 x hx; omega) e
def RowSetT (P : Program) (w : World) (rs : List (List Nat)) : KD.Ty := ⟨fun S v => ∃ a L, v = .ref a ∧ S a = some (BigO P w a L) ∧ (∀ p ∈ L, S p.1 = some (.tup (p.2.map V.int))) ∧ ∀ r ∈ rs, intsN r ∈ L.map (fun p : Addr × List Int => p.2), fun e ⟨a, L, h1, h2, h3, h4⟩ => ⟨a, L, h1, e _ _ h2, fun p hp => e _ _ (h3 p hp), h4⟩⟩
section
variable {md : Md} {S H S' H' S1 H1 S0 H0 : Hp} {K : PySem.W.Frag} {σ : L2.St} {ta tb' te tx : TE} {P : Program} {w : World}
theorem row_list : ∀ {rs : List (List Nat)} {xs : List V}, DdAll S xs (rs.map tI) → ∃ ks : List (Addr × List Int), xs = ks.map (fun p => V.ref p.1) ∧ ks.map (·.2) = rs.map intsN ∧ ∀ p ∈ ks, S p.1 = some (.tup (p.2.map V.int))
  | [], _, h => by
    cases h
    exact ⟨[], rfl, rfl, fun p hp => by cases hp⟩
  | r :: rs, _, h => by
    cases h with
    | cons h1 h2 =>
      obtain ⟨ks, rfl, e, q⟩ := row_list h2
      obtain ⟨b, rfl, hb⟩ := row_key h1
      rw [keyN_kV] at hb
      refine ⟨(b, intsN r) :: ks, rfl, by rw [List.map_cons, List.map_cons, e], fun p hp => ?_⟩
      rcases List.mem_cons.mp hp with rfl | hp
      · show S b = some (.tup ((intsN r).map V.int))
        unfold intsN
        rw [List.map_map]
        exact hb
      · exact q p hp
theorem ev_setB {rs : List (List Nat)} (few : rs.length ≤ 300) (nd : (rs.map fun r => (tupleKind (mixKind P w)).hash (keyN r)).Nodup) (h : Ev md S te σ (D (rsD rs))) : Ev md S (tCB (rSetB K P w) (tCons te tNil)) σ (RowSetT P w rs) := fun S1 H R e o k =>
  ea1 h S1 H _ e o fun vs S2 H2 g2 hv => by
    obtain ⟨v, rfl, hw⟩ := hv.one
    have hw' : Dd S2 v (rsD rs) := hw
    cases hw' with
    | @lst a xs _ e1 e2 =>
      obtain ⟨ks, rfl, q1, q2⟩ := row_list e2
      have kl : ks.length = rs.length := by
        have := congrArg List.length q1
        rw [List.length_map, List.length_map] at this
        exact this
      have hzs : hz P w ks = rs.map fun r => (tupleKind (mixKind P w)).hash (keyN r) := by
        have : hz P w ks = (ks.map (·.2)).map (thash P w) := by rw [List.map_map]; rfl
        rw [this, q1, List.map_map]
        exact List.map_congr_left fun r _ => thash_eq P w r
      refine ⟨a, ks, rfl, SqL.of (g2.k.le _ _ e1), fun p hp => SqT.of (g2.k.le _ _ (q2 p hp)), by rw [kl]; exact few, by rw [hzs]; exact nd, fun p L hp pm => ?_⟩
      have n := g2.k.new (o := BigO P w p L) hp
      refine k _ _ _ (g2.trans n) ⟨p, L, rfl, upd_same, fun q hq => n.st _ _ (q2 q (pm.mem_iff.mp hq)), fun r hr => ?_⟩
      have : intsN r ∈ ks.map (·.2) := by rw [q1]; exact List.mem_map.mpr ⟨r, hr, rfl⟩
      exact ((pm.map (·.2)).mem_iff).mpr this
theorem ev_notInB {rs : List (List Nat)} {r : List Nat} (hm : r ∈ rs) (h1 : Ev md S ta σ (D (tI r))) (h2 : Ev md S tb' σ (RowSetT P w rs)) : Ev md S (tOp (rNotInB K P w) ta tb') σ (D (.bool false)) := fun S1 H R e o k =>
  h1 S1 H _ e o fun x S2 H2 g2 hx => h2 S2 H2 _ (e.trans g2.st) g2.k fun y S3 H3 g3 hy => by
    obtain ⟨b, rfl, hb⟩ := row_key hx
    obtain ⟨a, L, rfl, h3, h4, h5⟩ := hy
    rw [keyN_kV] at hb
    refine ⟨a, b, L, intsN r, rfl, rfl, g3.k.le _ _ h3, ?_, fun p hp => SqT.of (g3.k.le _ _ (h4 p hp)), h5 r hm, k _ S3 H3 (g2.trans g3) (Dd.bl _)⟩
    unfold intsN
    rw [List.map_map]
    exact SqT.of (g3.k.le _ _ (g3.st _ _ hb))
/-- row[1:] -/
theorem ev_cutFirst {r : List Nat} (h : Ev md S te σ (D (tI r))) (h2 : Ev md S ta σ (D (.int 1))) (hr : 1 ≤ r.length) : Ev md S (tSl (rSlA K) te (tPart ta) tNoPart) σ (D (tI (r.drop 1))) := by
  have q := ev_slA (K := K) h.Dtup (eo_some (i := ((1 : Nat) : Int)) h2) eo_none
  rw [tI_cut] at q
  have e : (r.drop (HT.sIx r.length 0 (some ((1 : Nat) : Int)))).take (HT.sIx r.length r.length none - HT.sIx r.length 0 (some ((1 : Nat) : Int))) = r.drop 1 := by
    rw [HT.sIx_nat, HT.sIx_none, Nat.min_eq_left hr]
    exact List.take_of_length_le (by rw [List.length_drop]; exact Nat.le_refl _)
  rw [e] at q
  exact Ev.tupD q
end
/-- a reader's table may be taken: what need_table asks -/
structure NeedOk (w v : W) (j : Nat) (T : Tb) : Prop where
  bw : Wb w
  bv : Wb v
  aw : w.2.length ≤ 9
  j4 : j ≤ 4
  m : many w (j + 1) ≤ 300
  rd : Rd w v j T
def sp_need_table (CW CR : Addr) : Sp := spP (α := W × W × Nat × Tb) (fun a => NeedOk a.1 a.2.1 a.2.2.1 a.2.2.2) (fun a => [WoT CW a.1, WoT CW a.2.1, D (nI (a.2.2.1 + 1)), DctT (tb a.1 a.2.2.1 a.2.2.2)]) (fun _ => D .none)
section
variable {P : Program} {w : World} {K : PySem.W.Frag} {mg : Str → Option Value} {base : Heap}
abbrev t_need_table : Stmt := top 21
theorem sc_need_table : FnScope ["web", "other", "window", "table", "rows", "row", "known", "key", "arrow"] ["web", "other", "window", "table"] (defScope t_need_table) := ⟨rfl, rfl, rfl, by decide +kernel, rfl, by decide +kernel, by decide +kernel⟩
theorem ok_need_table {f : Addr} {fd : FuncData} {CW CR : Addr} (WC : WebC K mg CW) (RC : RdrC K mg CR) (F : Fun K "need_table" "need_table" t_need_table f fd) (T : Txt mg)
    (C_Web_begin : Mf P w K mg base CW "begin" 3 ["self", "arrow"] (sp_Web_begin CW CR))
    (C_Web_end : Mf P w K mg base CW "end" 3 ["self", "arrow"] (sp_Web_end CW CR))
    (C_Web_has_arrow : Mf P w K mg base CW "has_arrow" 2 ["self", "arrow"] (sp_Web_has_arrow CW CR))
    (C_Web_on : Mf P w K mg base CW "on" 1 ["self", "arrow"] (sp_Web_on CW CR))
    (C_Web_rows : Mf P w K mg base CW "rows" 3 ["self", "length"] (sp_Web_rows CW CR))
    (C_is_within : Df P w K mg base "is_within" 1 ["thing", "low", "high"] sp_is_within)
    : FnOk P w K mg base CX0 4 f fd ["web", "other", "window", "table"] (sp_need_table CW CR) := by
  obtain ⟨f_Web_begin, fd_Web_begin, G_Web_begin, me_Web_begin, b_Web_begin⟩ := C_Web_begin.ex
  obtain ⟨f_Web_end, fd_Web_end, G_Web_end, me_Web_end, b_Web_end⟩ := C_Web_end.ex
  obtain ⟨f_Web_has_arrow, fd_Web_has_arrow, G_Web_has_arrow, me_Web_has_arrow, b_Web_has_arrow⟩ := C_Web_has_arrow.ex
  obtain ⟨f_Web_on, fd_Web_on, G_Web_on, me_Web_on, b_Web_on⟩ := C_Web_on.ex
  obtain ⟨f_Web_rows, fd_Web_rows, G_Web_rows, me_Web_rows, b_Web_rows⟩ := C_Web_rows.ex
  obtain ⟨f_is_within, fd_is_within, G_is_within, m_is_within, k_is_within, b_is_within⟩ := C_is_within.ex
  refine F.ok sc_need_table (fun vs H Q E h => by obtain ⟨_, _, _, _, hv, _⟩ := h; exact hv.len) (fun cdv A outer s H vs Q E hr h => ?_)
  obtain ⟨S, ⟨w, v, j, U⟩, hd, hS, hv, k⟩ := h
  dsimp only at hd hv k
  have g0 : Gr md0 S H S H := Gr.refl (ok0 hS)
  obtain ⟨v1, v2, v3, v4, rfl, h1, h2, h3, h4⟩ := hv.four
  refine ⟨_, (pss_cons (ps_if (pt_not (pt_val (pe_call G_is_within (hr.mono (by decide)) (by rfl) m_is_within k_is_within b_is_within .nil pass0 (pa_cons (pv 2) (pa_cons pe_int (pa_cons (pe_globI (by rfl) T.MOST_WINDOW) pa_nil))))))
      (pss_one ps_never)
      pss_nil)
    (pss_cons (ps_set (i := 4) sc_need_table.nd rfl (.inl rfl) (pe_meth (pv 0) WC.cl me_Web_rows G_Web_rows (hr.mono (by decide)) b_Web_rows .nil pass0 (pa_cons (pv 2) pa_nil)))
    (pss_cons (ps_for PassesOwn.never rfl (pi_listK K (pv 4)) (pg_name (i := 5) sc_need_table.nd rfl (.inl rfl))
      (pss_one (ps_if (PW.pt (pw_or (pt_cmp (pc_dnotin (hu_of hr) (pv 5) (pv 3))) (pw_or1 (pt_not (pt_val (pe_meth (pv 1) WC.cl me_Web_has_arrow G_Web_has_arrow (hr.mono (by decide)) b_Web_has_arrow .nil pass0 (pa_cons (pe_dget (hu_of hr) (pv 3) (pv 5) (fun _ _ => rfl)) pa_nil)))))))
        (pss_one ps_never)
        pss_nil)))
    (pss_cons (ps_set (i := 6) sc_need_table.nd rfl (.inl rfl) (pe_callTy (cr_setB rfl hr.units) (by rfl) T.set (by decide +kernel) (pa_cons (pv 4) pa_nil)))
    (pss_cons (ps_for PassesOwn.never rfl (pi_listK K (pe_callB (cr_sortedDT rfl hr.units) (by rfl) T.sorted (by decide +kernel) (pa_cons (pv 3) pa_nil))) (pg_name (i := 7) sc_need_table.nd rfl (.inl rfl))
      (pss_one (ps_if (pt_cmpR (op_notInB hr.units) (pv 7) (pv 6) (by rfl))
        (pss_one ps_never)
        pss_nil)))
    (pss_one (ps_for PassesOwn.never rfl (pi_listK K (pv 4)) (pg_name (i := 5) sc_need_table.nd rfl (.inl rfl))
      (pss_one (ps_for PassesOwn.never rfl (pi_listK K (pe_meth (pv 0) WC.cl me_Web_on G_Web_on (hr.mono (by decide)) b_Web_on .nil pass0 (pa_cons (pe_ix (ix_tupK K) (pv 5) (pe_un un_neg pe_int) (fun _ _ => rfl)) pa_nil))) (pg_name (i := 8) sc_need_table.nd rfl (.inl rfl))
        (pss_one (ps_if (pt_cmpR op_ne (pe_meth (pv 1) WC.cl me_Web_end G_Web_end (hr.mono (by decide)) b_Web_end .nil pass0 (pa_cons (pe_dget (hu_of hr) (pv 3) (pv 5) (fun _ _ => rfl)) pa_nil)) (pe_meth (pv 1) WC.cl me_Web_begin G_Web_begin (hr.mono (by decide)) b_Web_begin .nil pass0 (pa_cons (pe_dget (hu_of hr) (pv 3) (pe_op (op_catAK K) (pe_slice (sl_tupAK K) (pv 5) (po_some pe_int) po_none) (pe_tup (pa_cons (pv 8) pa_nil))) (fun _ _ => rfl)) pa_nil)) (nomark _))
          (pss_one ps_never)
          pss_nil))))))))))), ?_⟩
  obtain ⟨bw, bv, aw, j4, hm, rd⟩ := hd
  have okw : WOk w := bw.toWOk
  have okv : WOk v := bv.toWOk
  have bw : Wb w := bw
  have j4 : j ≤ 4 := j4
  have hm : many w (j + 1) ≤ 300 := hm
  have aw : w.2.length ≤ 9 := aw
  have few : (rowsN w j).length ≤ 300 := by rw [rowsN_len okw]; exact hm
  refine q_ifF (et_not (a := true) (et_val (Ev.eq (ev_call (((j + 1 : Nat) : Int), (1 : Int), (6 : Int)) trivial (ea3 (ev_var h3) ev_int ev_int)) (by show PyData.bool (decide ((1 : Int) ≤ ((j + 1 : Nat) : Int)) && decide (((j + 1 : Nat) : Int) ≤ 6)) = _; rw [decide_eq_true (by omega), decide_eq_true (by omega)]; rfl)))) g0 fun S1 H1 g1 e1 => ?_
  have h1 := (WoT CW w).up e1.st h1
  have h2 := (WoT CW v).up e1.st h2
  have h3 := (D _).up e1.st h3
  have h4 := (DctT _).up e1.st h4
  refine q_asg (P := D (rsD (rowsN w j))) (ev_meth (w, j) ⟨bw, by show j + 1 ≤ 6; omega, by show many w (j + 1) ≤ 600; omega⟩ (ev_var h1) rfl (ea1 (ev_var h3)) rfl) g1 fun v5 S2 H2 g2 e2 h5 => ?_
  have h1 := (WoT CW w).up e2.st h1
  have h2 := (WoT CW v).up e2.st h2
  have h4 := (DctT _).up e2.st h4
  refine q_for (ex_listD (xs := rowsN w j) (enc := tI) (ev_var h5)) g2 (fun i σ S' _ => ∃ z, σ = [some v1, some v2, some v3, some v4, some v5, z, none, none, none]) (fun S3 H3 e3 => ⟨none, rfl⟩) ?_ ?_
  · rintro Sb i r σ1 S3 H3 x S4 H4 hi eb g4 e4 ⟨z, rfl⟩ e5 hx
    have hr : r ∈ rowsN w j := List.mem_of_getElem? hi
    have h2 := (WoT CW v).up (eb.trans e4) h2
    have h4 := (DctT _).up (eb.trans e4) h4
    show tIfS _ _ _ _ [some v1, some v2, some v3, some v4, some v5, some x, none, none, none] _
    refine s_if (b := false) (et_or (a := false) (b := false) (et_val (Ev.eq (ev_dnotin (ev_var h4) (ev_var hx)) (by rw [lk_tb hr]; rfl))) fun _ => et_not (a := true) (et_val (Ev.eq (ev_meth (v, U r) trivial (ev_var h2) rfl (ea1 (ev_dget (ev_var h4) (ev_var hx) (lk_tb hr))) rfl) (by show PyData.bool (decide (U r < v.2.length)) = _; rw [decide_eq_true (rd.val r hr)])))) g4 (fun z => nomatch z) fun _ S5 H5 g5 e6 => ⟨S5, g5, e4.trans e6.st, _, rfl⟩
  · rintro σ1 S3 H3 g3 e3 ⟨z, rfl⟩
    have h1 := (WoT CW w).up e3 h1
    have h2 := (WoT CW v).up e3 h2
    have h4 := (DctT _).up e3 h4
    have h5 := (D _).up e3 h5
    refine q_asg (P := RowSetT P _ (rowsN w j)) (ev_setB few (rows_hash j4 aw) (ev_var h5)) g3 fun v7 S4 H4 g4 e4 h7 => ?_
    have h1 := (WoT CW w).up e4.st h1
    have h2 := (WoT CW v).up e4.st h2
    have h4 := (DctT _).up e4.st h4
    have h5 := (D _).up e4.st h5
    refine q_for (ex_listD (xs := rowsN w j) (enc := tI) (ev_sortR (ev_var h4))) g4 (fun i σ S' _ => ∃ y z, σ = [some v1, some v2, some v3, some v4, some v5, y, some v7, z, none]) (fun S3 H3 e3 => ⟨_, none, rfl⟩) ?_ ?_
    · rintro Sb i r σ1 S5 H5 x S6 H6 hi eb g6 e6 ⟨y, z, rfl⟩ e7 hx
      have hr : r ∈ rowsN w j := List.mem_of_getElem? hi
      have h7 := (RowSetT P _ _).up (eb.trans e6) h7
      show tIfS _ _ _ _ [some v1, some v2, some v3, some v4, some v5, y, some v7, some x, none] _
      refine s_if (b := false) (et_val (ev_notInB hr (ev_var hx) (ev_var h7))) g6 (fun z => nomatch z) fun _ S7 H7 g7 e8 => ⟨S7, g7, e6.trans e8.st, _, _, rfl⟩
    · rintro σ1 S5 H5 g5 e5 ⟨y, z, rfl⟩
      have h1 := (WoT CW w).up e5 h1
      have h2 := (WoT CW v).up e5 h2
      have h4 := (DctT _).up e5 h4
      have h5 := (D _).up e5 h5
      refine x_for (ex_listD (xs := rowsN w j) (enc := tI) (ev_var h5)) g5 (fun i σ S' _ => ∃ y x, σ = [some v1, some v2, some v3, some v4, some v5, y, some v7, z, x]) (fun S3 H3 e3 => ⟨_, none, rfl⟩) ?_ ?_
      · rintro Sb i r σ1 S6 H6 x S7 H7 hi eb g7 e7 ⟨y, x8, rfl⟩ e8 hx
        have hr : r ∈ rowsN w j := List.mem_of_getElem? hi
        have h1 := (WoT CW w).up (eb.trans e7) h1
        have h2 := (WoT CW v).up (eb.trans e7) h2
        have h4 := (DctT _).up (eb.trans e7) h4
        have hll := rowsN_last hr
        have rl := (mem_rowsN.mp hr).1
        show tFor _ _ _ _ [some v1, some v2, some v3, some v4, some v5, some x, some v7, z, x8] _
        refine x_for (ex_listD (xs := onn w (lst0 r)) (enc := nI) (ev_meth (w, lst0 r) ⟨okw, hll⟩ (ev_var h1) rfl (ea1 (ev_lastT (ev_var hx) (rowsN_ne hr) ev_neg1)) rfl)) g7 (fun i σ S' _ => ∃ x8, σ = [some v1, some v2, some v3, some v4, some v5, some x, some v7, z, x8]) (fun S3 H3 e3 => ⟨_, rfl⟩) ?_ ?_
        · rintro Sc l a σ2 S8 H8 y8 S9 H9 hl ec g9 e9 ⟨x9, rfl⟩ e10 hy
          obtain rfl := D_int hy
          have ha : a ∈ onn w (lst0 r) := List.mem_of_getElem? hl
          have h2 := (WoT CW v).up (ec.trans e9) h2
          have h4 := (DctT _).up (ec.trans e9) h4
          have hx := (D _).up (ec.trans e9) hx
          have hs := rowsN_snoc hr ha
          have hd := rowsN_drop hs
          have edrop : (r ++ [a]).drop 1 = r.drop 1 ++ [a] := List.drop_append_of_le_length (by omega)
          rw [edrop] at hd
          have f := rd.fol _ hs
          rw [edrop, List.take_left' (by rw [rl])] at f
          show tIfS _ _ _ _ [some v1, some v2, some v3, some v4, some v5, some x, some v7, z, some (.int (a : Nat))] _
          have key : Ev md0 S9 (tOp (rCatA K) (tSl (rSlA K) (tVar 5) (tPart (tC (.int 1))) tNoPart) (tTup (tCons (tVar 8) tNil))) [some v1, some v2, some v3, some v4, some v5, some x, some v7, z, some (.int (a : Nat))] (D (tI (r.drop 1 ++ [a]))) := by
            rw [tI_snoc]
            refine Ev.tupD ?_
            rw [List.map_append]
            refine ev_catA (Ev.Dtup (ev_cutFirst (ev_var hx) ev_int (by omega))) (ev_tup (ts := [D (nI a)]) (ea1 (ev_var (Dd.int _)))) ?_
            simp
            omega
          refine s_if (b := false) (et_val (Ev.eq (ev_neN (ev_meth (v, U r) (rd.val r hr) (ev_var h2) rfl (ea1 (ev_dget (ev_var h4) (ev_var hx) (lk_tb hr))) rfl) (ev_meth (v, U (r.drop 1 ++ [a])) (rd.val _ hd) (ev_var h2) rfl (ea1 (ev_dget (ev_var h4) key (lk_tb hd))) rfl)) ?_)) g9 (fun z => nomatch z) fun _ S10 H10 g10 e11 => ⟨S10, g10, e9.trans e11.st, _, rfl⟩
          show PyData.bool (!decide (en v (U r) = be v (U (r.drop 1 ++ [a])))) = _
          rw [decide_eq_true f]
          rfl
        · rintro σ2 S8 H8 g8 e8 ⟨x9, rfl⟩
          exact ⟨S8, g8, e7.trans e8, _, _, rfl⟩
      · rintro σ2 S6 H6 g6 e6 ⟨y, x8, rfl⟩
        exact k _ _ _ g6 Dd.non
end
end K49
end
section
set_option linter.all false
set_option maxRecDepth 100000
set_option maxHeartbeats 4000000
namespace K49
open PySem PySem.Spec PyProof.Rows L2 KR KD KB
/-- a table told shorter: None, or the shorter table, locked -/
def ShT (w : W) (j : Nat) (U : Tb) : KD.Ty := ⟨fun S v => if dep w j U = true then (DctF (tb w j fun p => U (ext1 w p))).ok S v else v = .non, fun {S S' v} e h => by
  by_cases c : dep w j U = true
  · rw [if_pos c] at h ⊢
    exact (DctF _).up e h
  · rw [if_neg c] at h ⊢
    exact h⟩
def sp_shorter : Sp := spP (α := W × Nat × Tb) (fun a => WOk a.1 ∧ many a.1 (a.2.1 + 2) ≤ 600) (fun a => [DctF (tb a.1 (a.2.1 + 1) a.2.2)]) (fun a => ShT a.1 a.2.1 a.2.2)
theorem setd_test {md : Md} {S0 H0 S H : Hp} {σ : L2.St} {ty : TE} {d : Addr} {kvs : List (List Nat × Nat)} {p : List Nat} {told : Nat} {R : Bool → Hp → Prop} (s1 : σ[1]? = some (some (.ref d))) (s3 : σ[3]? = some (some (.int (told : Nat)))) (hk : Ev md S ty σ (D (tI p))) (g : Gr md S0 H0 S H) (w : Own md S0 H0 S H d (.dT (dEnc kvs))) (hl : kvs.length < 100000)
    (k1 : ∀ a S' H', lk kvs p = some a → Gr md S0 H0 S' H' → Same S S' → Own md S0 H0 S' H' d (.dT (dEnc kvs)) → R (!decide (a = told)) H')
    (k2 : ∀ S' H', lk kvs p = none → Gr md S0 H0 S' H' → Same S S' → Own md S0 H0 S' H' d (.dT (dEnc (kvs ++ [(p, told)]))) → R false H') :
    tTest (tOp rNe (tSetdT (tVar 1) ty (tVar 3)) (tVar 3)) σ H R := by
  refine ⟨_, s1, d, rfl, .inr ⟨_, .inl w.h⟩, hk S H _ (Same.refl _) g.k fun y S2 H2 g2 hy => ?_⟩
  obtain ⟨b, rfl, hb⟩ := row_key hy
  have w2 := w.step g g2
  refine ⟨_, s3, dEnc kvs, keyN p, b, w2.h, rfl, g2.k.le _ _ hb, Nat.lt_of_lt_of_le (m := 100000) (by unfold dEnc; rw [List.length_map]; exact hl) (by decide), fun v hv => ?_, fun hn => ?_⟩
  · rw [val_dEnc] at hv
    obtain ⟨a, ha, rfl⟩ := Option.map_eq_some_iff.mp hv
    refine ⟨_, s3, rfl, _, rfl, ?_⟩
    have := k1 a S2 H2 ha (g.trans g2) g2.st w2
    have e : decide ((V.int (a : Nat)) = V.int (told : Nat)) = decide (a = told) := decide_eq_decide.mpr ⟨fun z => by injection z with z; omega, fun z => by rw [z]⟩
    rw [e]
    exact this
  · rw [val_dEnc] at hn
    have hn : lk kvs p = none := by
      cases q : lk kvs p with
      | none => rfl
      | some a => rw [q] at hn; cases hn
    obtain ⟨g3, w3⟩ := w2.upd (o' := .dT (putK (dEnc kvs) (keyN p) (.int (told : Nat)))) (g.trans g2)
    rw [put_dEnc_new hn] at g3 w3 ⊢
    refine ⟨_, s3, rfl, _, rfl, ?_⟩
    have e : decide ((V.int (told : Nat)) = V.int (told : Nat)) = true := decide_eq_true rfl
    rw [e]
    exact k2 S2 _ hn g3 g2.st w3
section
variable {P : Program} {w : World} {K : PySem.W.Frag} {mg : Str → Option Value} {base : Heap}
abbrev t_shorter : Stmt := top 22
theorem sc_shorter : FnScope ["table", "found", "row", "told"] ["table"] (defScope t_shorter) := ⟨rfl, rfl, rfl, by decide +kernel, rfl, by decide +kernel, by decide +kernel⟩
theorem ok_shorter {f : Addr} {fd : FuncData} (F : Fun K "shorter" "shorter" t_shorter f fd) (T : Txt mg)
    : FnOk P w K mg base CX0 1 f fd ["table"] sp_shorter := by
  refine F.ok sc_shorter (fun vs H Q E h => by obtain ⟨_, _, _, _, hv, _⟩ := h; exact hv.len) (fun cdv A outer s H vs Q E hr h => ?_)
  obtain ⟨S, ⟨w, j, U⟩, hd, hS, hv, k⟩ := h
  dsimp only at hd hv k
  have g0 : Gr md0 S H S H := Gr.refl (ok0 hS)
  obtain ⟨v1, rfl, h1⟩ := hv.one
  refine ⟨_, (pss_cons (ps_set (i := 1) sc_shorter.nd rfl (.inl rfl) pe_dnewT)
    (pss_cons (ps_for PassesOwn.never rfl (pi_itemsT (pv 0)) (pg_tupK K (n := 2) rfl (pgs_cons (pg_name (i := 2) sc_shorter.nd rfl (.inl rfl)) (pgs_cons (pg_name (i := 3) sc_shorter.nd rfl (.inl rfl)) pgs_nil)))
      (pss_one (ps_if (pt_cmpR op_ne (pe_setdefT (hu_of hr) (pv 1) (pe_slice (sl_tupAK K) (pv 2) po_none (po_some (pe_un un_neg pe_int))) (pv 3) ⟨rfl, rfl, rfl, rfl⟩) (pv 3) (nomark _))
        (pss_one (ps_ret pe_non))
        pss_nil)))
    (pss_one (ps_frz (ps_ret (pv 1)))))), ?_⟩
  obtain ⟨okw, hm⟩ := hd
  have okw : WOk w := okw
  have hm : many w (j + 2) ≤ 600 := hm
  have c1 : (rowsN w (j + 1)).length ≤ 600 := by rw [rowsN_len okw]; exact hm
  have c0 : (rowsN w j).length ≤ 600 := by rw [rowsN_len okw]; exact Nat.le_trans (many_mono okw (by omega)) hm
  refine q_newT g0 fun d H1 g1 e1 w1 => ?_
  refine q_for (ex_items (kvs := tb w (j + 1) U) (ev_var h1)) g1 (fun i σ S' H' => ∃ (y z : Option V) (mm : Nat), σ = [some v1, some (.ref d), y, z] ∧ Own md0 S H S' H' d (.dT (dEnc (lat w j U mm))) ∧ LInv w j U i mm) (fun S2 H2 e2 => ⟨none, none, 0, rfl, w1.step g1 e2, LInv.zero w j U⟩) ?_ ?_
  · rintro Sb i p σ1 S2 H2 x S3 H3 hi eb g3 e3 ⟨y, z, mm, rfl, w2, L⟩ e4 ⟨q, u, rfl, hq, hu⟩
    have hi' : (rowsN w (j + 1))[i]? = some p.1 ∧ p.2 = U p.1 := by
      unfold tb at hi
      rw [List.getElem?_map] at hi
      obtain ⟨r, hr, rfl⟩ := Option.map_eq_some_iff.mp hi
      exact ⟨hr, rfl⟩
    obtain ⟨hi', hp2⟩ := hi'
    obtain ⟨r, t⟩ := p
    dsimp only at hi' hp2 hq hu
    subst hp2
    have w3 := w2.step g3 e4
    refine eg_pair hq H3 _ g3.k.le ?_
    show tIfS _ _ _ _ [some v1, some (.ref d), some u, some (.int (U r : Nat))] _
    have lm := lat_len w j U mm
    refine setd_test rfl rfl (ev_cutLast (ev_var hu) ev_neg1) g3 w3 (by omega) (fun a S4 H4 ha g4 e5 w4 => ?_) (fun S4 H4 hn g4 e5 w4 => ?_)
    · rcases Nat.lt_or_ge i (pre w j mm).length with hlt | hge
      · obtain ⟨p, h0, hp, hdl, hnext⟩ := L.old hi' hlt
        obtain ⟨l1, l2⟩ := lat_old (T := U) h0 hp
        rw [hdl, l1] at ha
        cases ha
        by_cases he : U (ext1 w p) = U r
        · rw [show (!decide (U (ext1 w p) = U r)) = false by rw [decide_eq_true he]; rfl]
          exact iteF ⟨S4, g4, e3.trans e5, _, _, mm, rfl, w4, hnext he.symm⟩
        · rw [show (!decide (U (ext1 w p) = U r)) = true by rw [decide_eq_false he]; rfl]
          refine iteT ?_
          have hdep := dep_no okw (List.mem_of_getElem? hi') hdl (fun z => he z.symm)
          refine s_ret (P := ShT w j U) (fun S5 H5 R _ o5 k5 => k5 _ S5 H5 (Gr.refl o5) ?_) g4 k
          show if dep w j U = true then _ else _
          rw [hdep, if_neg Bool.false_ne_true]
      · obtain ⟨p, hp, hre, hdl, hL⟩ := L.new okw hi' (Nat.le_antisymm L.le hge)
        obtain ⟨l1, l2⟩ := lat_new (T := U) hp
        rw [hdl, l1] at ha
        cases ha
    · rcases Nat.lt_or_ge i (pre w j mm).length with hlt | hge
      · obtain ⟨p, h0, hp, hdl, hnext⟩ := L.old hi' hlt
        obtain ⟨l1, l2⟩ := lat_old (T := U) h0 hp
        rw [hdl, l1] at hn
        cases hn
      · obtain ⟨p, hp, hre, hdl, hL⟩ := L.new okw hi' (Nat.le_antisymm L.le hge)
        obtain ⟨l1, l2⟩ := lat_new (T := U) hp
        refine iteF ⟨S4, g4, e3.trans e5, _, _, mm + 1, rfl, ?_, hL⟩
        rw [l2, ← hre]
        rw [hdl] at w4
        exact w4
  · rintro σ1 S2 H2 g2 e2 ⟨y, z, mm, rfl, w2, L⟩
    rw [show (tb w (j + 1) U).length = (rowsN w (j + 1)).length from List.length_map _] at L
    obtain ⟨hmm, hdep⟩ := L.done okw
    subst hmm
    rw [lat_full] at w2
    refine s_frz w2 g2 trivial fun o H3 g3 e3 => ?_
    refine s_ret (P := ShT w j U) (ev_var (v := .ref d) ?_) g3 k
    show if dep w j U = true then _ else _
    rw [hdep, if_pos rfl]
    exact ⟨d, o, rfl, upd_same⟩
end
end K49
end
section
set_option linter.all false
set_option maxRecDepth 100000
set_option maxHeartbeats 4000000
namespace K49
open PySem PySem.Spec PyProof.Rows L2 KR KD KB
section
variable {md : Md} {S : Hp} {K : PySem.W.Frag} {σ : L2.St} {te tk tv : TE} {g : TG} {P : Program} {w : World}
/-- a dict by rows, locked at once -/
theorem ev_dcF {ti : TI} {T : List Nat → Hp → V → Prop} {vs : List Nat} {rs : List (List Nat)} (f : Tb) (h : EvX md S ti σ rs T) (hn : rs.length ≤ 100000) (nd : rs.Nodup)
    (hb : ∀ r S1 x, Same S S1 → r ∈ rs → T r S1 x → ∃ σ2, EvG S1 g x (wipe σ vs) σ2 ∧ wipe σ2 vs = wipe σ vs ∧ Ev md S1 tk σ2 (D (tI r)) ∧ Ev md S1 tv σ2 (D (nI (f r)))) :
    Ev md S (tFrz (tDcT ti g tk tv vs)) σ (DctF (rs.map fun r => (r, f r))) := fun S1 H1 R e1 o1 k => by
  refine h S1 H1 (fun J H2 => ∀ Dl, H2 Dl = none → ∃ W : Nat → Nat → Hp → Prop, (∃ m, W 0 m (L2.upd H2 Dl (.dT []))) ∧ ∀ i m H, W i m H →
    (J.stop i H ∧ (fun v H1 => ∃ d u, v = V.ref d ∧ H1 d = some u ∧ Mut (some u) ∧ ∀ o, R v (L2.upd H1 d (.frz o u))) (.ref Dl) H) ∨ (J.go i H ∧ ∃ Nx : Hp → Prop, (∀ H', Nx H' → ∃ m', m' < m ∧ W (i + 1) m' H') ∧ ∀ x H', J.yld i H x H' → g x (wipe σ vs) H' fun σ2 H2 => wipe σ2 vs = wipe σ vs ∧
      tk σ2 H2 fun y H4 => tv σ2 H4 fun z H5 => ∃ kvs k b, y = .ref b ∧ H5 b = some (.tup (k.map kV)) ∧ H5 Dl = some (.dT kvs) ∧ kvs.length < sizeLine ∧ Nx (L2.upd H5 Dl (.dT (putK kvs k z))))) e1 o1 fun J S2 H2 g2 w => fun Dl hD => ?_
  have n0 := g2.k.newL (o := .dT []) hD
  refine ⟨fun i m H => m = rs.length - i ∧ i ≤ rs.length ∧ ∃ S3, Gr md S2 H2 S3 H ∧ S3 Dl = none ∧ H Dl = some (.dT (dEnc (fil rs f i))), ⟨rs.length, by omega, Nat.zero_le _, S2, n0, g2.k.le.free hD, upd_same⟩, ?_⟩
  rintro i m H ⟨rfl, hi, S3, g3, s3, h3⟩
  have nm : ¬ md.M Dl := g3.nm hD
  by_cases hlt : i < rs.length
  · refine .inr ⟨w.go i S3 H g3.st g3.k hlt, fun H => ∃ S3, Gr md S2 H2 S3 H ∧ S3 Dl = none ∧ H Dl = some (.dT (dEnc (fil rs f (i + 1)))), fun H' q => ⟨rs.length - (i + 1), by omega, rfl, hlt, q⟩, fun x H4 y => ?_⟩
    obtain ⟨S4, g4, r, hr, ht⟩ := w.yld i S3 H x H4 g3.st g3.k hlt y
    obtain ⟨h4, s4⟩ := g4.keep s3 h3 nm
    obtain ⟨σ2, eg, wp, ek, ev⟩ := hb r S4 x (((e1.trans g2.st).trans g3.st).trans g4.st) (List.mem_of_getElem? hr) ht
    refine eg H4 _ g4.k.le ⟨wp, ek S4 H4 _ (Same.refl _) g4.k fun y5 S5 H5 g5 hy => ev S5 H5 _ g5.st g5.k fun z S6 H6 g6 hz => ?_⟩
    obtain ⟨h5, s5⟩ := g5.keep s4 h4 nm
    obtain ⟨h6, s6⟩ := g6.keep s5 h5 nm
    obtain rfl := D_int hz
    obtain ⟨b, rfl, hb2⟩ := row_key hy
    refine ⟨_, keyN r, b, rfl, g6.k.le _ _ (g6.st _ _ hb2), h6, Nat.lt_of_le_of_lt (fil_len rs f i) (Nat.lt_of_lt_of_le (m := 100001) (by omega) (by decide)), S6, (((g3.trans g4).trans g5).trans g6).mut hD s6, s6, ?_⟩
    rw [upd_same, fil_put nd hr]
  · have ei : i = rs.length := by omega
    subst ei
    refine .inl ⟨w.stop S3 H g3.st g3.k, Dl, _, rfl, h3, trivial, fun o => ?_⟩
    have hf : fil rs f rs.length = rs.map fun r => (r, f r) := by
      unfold fil
      rw [List.take_length]
    rw [hf] at h3 ⊢
    have g4 := (g3.mut (o := .frz o (.dT (dEnc (rs.map fun r => (r, f r))))) hD s3)
    exact k _ _ _ ((g2.trans g4).frz (nf_back g2 hD) s3 upd_same) ⟨Dl, o, rfl, upd_same⟩
/-- dict(d), locked at once -/
theorem ev_copyF {kvs : List (List Nat × Nat)} (nd : (kvs.map fun p => (tupleKind (mixKind P w)).hash (keyN p.1)).Nodup) (h : Ev md S te σ (DctT kvs)) : Ev md S (tFrz (tCB (rCopyT P w) (tCons te tNil))) σ (DctF kvs) := fun S1 H R e o k => by
  refine ea1 h S1 H (fun vs H1 => rCopyT P w vs H1 fun v H1 => ∃ d u, v = .ref d ∧ H1 d = some u ∧ Mut (some u) ∧ ∀ o, R v (L2.upd H1 d (.frz o u))) e o fun vs S2 H2 g2 hv => ?_
  obtain ⟨v, rfl, d, rfl, hd⟩ := hv.one
  refine ⟨d, _, rfl, rd_up g2.k.le hd, ?_, fun p hp => ⟨p, _, rfl, upd_same, trivial, fun o => ?_⟩⟩
  · unfold dEnc
    rw [List.map_map]
    exact nd
  · have eu : L2.upd (L2.upd H2 p (.dT (dEnc kvs))) p (.frz o (.dT (dEnc kvs))) = L2.upd H2 p (.frz o (.dT (dEnc kvs))) := by
      funext b
      by_cases c : b = p
      · rw [c, upd_same, upd_same]
      · rw [upd_ne c, upd_ne c, upd_ne c]
    rw [eu]
    exact k _ _ _ (g2.trans (g2.k.new hp)) ⟨p, o, rfl, upd_same⟩
end
def rFs (CW : Addr) (w v : W) (j : Nat) (T : Tb) : List (Str × KD.Ty) := [("source", WoT CW w), ("goal", WoT CW v), ("wide", D (nI (j + 1))), ("told", DctF (tb w j T))]
def RoT (CW CR : Addr) (w v : W) (j : Nat) (T : Tb) : KD.Ty := InsT CR (rFs CW w v j T)
abbrev RA := W × W × Nat × Tb
def sp_Reader_init (CW CR : Addr) : Sp := spI (α := RA) CR (fun a => NeedOk a.1 a.2.1 a.2.2.1 a.2.2.2) (fun a => [WoT CW a.1, WoT CW a.2.1, D (nI (a.2.2.1 + 1)), DctT (tb a.1 a.2.2.1 a.2.2.2)]) (fun a => rFs CW a.1 a.2.1 a.2.2.1 a.2.2.2)
def sp_Reader_web (CW CR : Addr) : Sp := spP (α := RA) (fun _ => True) (fun a => [RoT CW CR a.1 a.2.1 a.2.2.1 a.2.2.2]) (fun a => WoT CW a.1)
def sp_Reader_other (CW CR : Addr) : Sp := spP (α := RA) (fun _ => True) (fun a => [RoT CW CR a.1 a.2.1 a.2.2.1 a.2.2.2]) (fun a => WoT CW a.2.1)
def sp_Reader_window (CW CR : Addr) : Sp := spP (α := RA) (fun _ => True) (fun a => [RoT CW CR a.1 a.2.1 a.2.2.1 a.2.2.2]) (fun a => D (nI (a.2.2.1 + 1)))
def sp_Reader_table (CW CR : Addr) : Sp := spP (α := RA) (fun a => NeedOk a.1 a.2.1 a.2.2.1 a.2.2.2) (fun a => [RoT CW CR a.1 a.2.1 a.2.2.1 a.2.2.2]) (fun a => DctF (tb a.1 a.2.2.1 a.2.2.2))
def sp_Reader_least (CW CR : Addr) : Sp := spP (α := RA) (fun a => NeedOk a.1 a.2.1 a.2.2.1 a.2.2.2) (fun a => [RoT CW CR a.1 a.2.1 a.2.2.1 a.2.2.2]) (fun a => RoT CW CR a.1 a.2.1 (lst a.1 a.2.2.1 a.2.2.2).1 (lst a.1 a.2.2.1 a.2.2.2).2)
section
variable {P : Program} {w : World} {K : PySem.W.Frag} {mg : Str → Option Value} {base : Heap}
abbrev t_Reader_web : Stmt := inClass (top 23) 4
theorem sc_Reader_web : FnScope ["self"] ["self"] (defScope t_Reader_web) := ⟨rfl, rfl, rfl, by decide +kernel, rfl, by decide +kernel, by decide +kernel⟩
theorem ok_Reader_web {f : Addr} {fd : FuncData} {CW CR : Addr} (WC : WebC K mg CW) (RC : RdrC K mg CR) (F : Fun K "web" "Reader.web" t_Reader_web f fd) (T : Txt mg)
    : FnOk P w K mg base CX0 1 f fd ["self"] (sp_Reader_web CW CR) := by
  refine F.ok sc_Reader_web (fun vs H Q E h => by obtain ⟨_, _, _, _, hv, _⟩ := h; exact hv.len) (fun cdv A outer s H vs Q E hr h => ?_)
  obtain ⟨S, ⟨w, v, j, U⟩, hd, hS, hv, k⟩ := h
  dsimp only at hd hv k
  have g0 : Gr md0 S H S H := Gr.refl (ok0 hS)
  obtain ⟨v1, rfl, h1⟩ := hv.one
  refine ⟨_, (pss_one (ps_ret (pe_fldK K (pv 0) rfl))), ?_⟩
  exact s_ret (ev_fld (ev_var h1) RC.cl RC.source rfl) g0 k
abbrev t_Reader_other : Stmt := inClass (top 23) 5
theorem sc_Reader_other : FnScope ["self"] ["self"] (defScope t_Reader_other) := ⟨rfl, rfl, rfl, by decide +kernel, rfl, by decide +kernel, by decide +kernel⟩
theorem ok_Reader_other {f : Addr} {fd : FuncData} {CW CR : Addr} (WC : WebC K mg CW) (RC : RdrC K mg CR) (F : Fun K "other" "Reader.other" t_Reader_other f fd) (T : Txt mg)
    : FnOk P w K mg base CX0 1 f fd ["self"] (sp_Reader_other CW CR) := by
  refine F.ok sc_Reader_other (fun vs H Q E h => by obtain ⟨_, _, _, _, hv, _⟩ := h; exact hv.len) (fun cdv A outer s H vs Q E hr h => ?_)
  obtain ⟨S, ⟨w, v, j, U⟩, hd, hS, hv, k⟩ := h
  dsimp only at hd hv k
  have g0 : Gr md0 S H S H := Gr.refl (ok0 hS)
  obtain ⟨v1, rfl, h1⟩ := hv.one
  refine ⟨_, (pss_one (ps_ret (pe_fldK K (pv 0) rfl))), ?_⟩
  exact s_ret (ev_fld (ev_var h1) RC.cl RC.goal rfl) g0 k
abbrev t_Reader_window : Stmt := inClass (top 23) 6
theorem sc_Reader_window : FnScope ["self"] ["self"] (defScope t_Reader_window) := ⟨rfl, rfl, rfl, by decide +kernel, rfl, by decide +kernel, by decide +kernel⟩
theorem ok_Reader_window {f : Addr} {fd : FuncData} {CW CR : Addr} (WC : WebC K mg CW) (RC : RdrC K mg CR) (F : Fun K "window" "Reader.window" t_Reader_window f fd) (T : Txt mg)
    : FnOk P w K mg base CX0 1 f fd ["self"] (sp_Reader_window CW CR) := by
  refine F.ok sc_Reader_window (fun vs H Q E h => by obtain ⟨_, _, _, _, hv, _⟩ := h; exact hv.len) (fun cdv A outer s H vs Q E hr h => ?_)
  obtain ⟨S, ⟨w, v, j, U⟩, hd, hS, hv, k⟩ := h
  dsimp only at hd hv k
  have g0 : Gr md0 S H S H := Gr.refl (ok0 hS)
  obtain ⟨v1, rfl, h1⟩ := hv.one
  refine ⟨_, (pss_one (ps_ret (pe_fldK K (pv 0) rfl))), ?_⟩
  exact s_ret (ev_fld (ev_var h1) RC.cl RC.wide rfl) g0 k
abbrev t_Reader_table : Stmt := inClass (top 23) 7
theorem sc_Reader_table : FnScope ["self"] ["self"] (defScope t_Reader_table) := ⟨rfl, rfl, rfl, by decide +kernel, rfl, by decide +kernel, by decide +kernel⟩
theorem ok_Reader_table {f : Addr} {fd : FuncData} {CW CR : Addr} (WC : WebC K mg CW) (RC : RdrC K mg CR) (F : Fun K "table" "Reader.table" t_Reader_table f fd) (T : Txt mg)
    : FnOk P w K mg base CX0 1 f fd ["self"] (sp_Reader_table CW CR) := by
  refine F.ok sc_Reader_table (fun vs H Q E h => by obtain ⟨_, _, _, _, hv, _⟩ := h; exact hv.len) (fun cdv A outer s H vs Q E hr h => ?_)
  obtain ⟨S, ⟨w, v, j, U⟩, hd, hS, hv, k⟩ := h
  dsimp only at hd hv k
  have g0 : Gr md0 S H S H := Gr.refl (ok0 hS)
  obtain ⟨v1, rfl, h1⟩ := hv.one
  refine ⟨_, (pss_one (ps_ret (pe_frz (pe_callTy (call_dictCopyT hr.units) (by rfl) T.dict (by decide +kernel) (pa_cons (pe_fldK K (pv 0) rfl) pa_nil))))), ?_⟩
  refine s_ret (ev_copyF ?_ (Ev.conv (ev_fld (ev_var h1) RC.cl RC.told rfl) fun _ _ => DctF.t)) g0 k
  unfold tb
  rw [List.map_map]
  exact rows_hash hd.j4 hd.aw
abbrev t_Reader_init : Stmt := inClass (top 23) 0
theorem sc_Reader_init : FnScope ["self", "web", "other", "window", "table", "row"] ["self", "web", "other", "window", "table"] (defScope t_Reader_init) := ⟨rfl, rfl, rfl, by decide +kernel, rfl, by decide +kernel, by decide +kernel⟩
theorem ok_Reader_init {f : Addr} {fd : FuncData} {CW CR : Addr} (WC : WebC K mg CW) (RC : RdrC K mg CR) (F : Fun K "__init__" "Reader.__init__" t_Reader_init f fd) (T : Txt mg)
    (C_need_table : Df P w K mg base "need_table" 4 ["web", "other", "window", "table"] (sp_need_table CW CR))
    : FnOk P w K mg base CX0 5 f fd ["self", "web", "other", "window", "table"] (sp_Reader_init CW CR) := by
  obtain ⟨f_need_table, fd_need_table, G_need_table, m_need_table, k_need_table, b_need_table⟩ := C_need_table.ex
  refine F.ok sc_Reader_init (fun vs H Q E h => by obtain ⟨_, _, _, _, _, _, _, rfl, _, _, hv, _⟩ := h; rw [List.length_cons, hv.len]; rfl) (fun cdv A outer s H vs Q E hr h => ?_)
  obtain ⟨S, Hb, ⟨w, v, j, U⟩, x, dx, ws, hd, rfl, g0, w0, hv, k⟩ := h
  obtain ⟨v2, v3, v4, v5, rfl, h2, h3, h4, h5⟩ := hv.four
  refine ⟨_, (pss_cons (ps_expr (pe_call G_need_table (hr.mono (by decide)) (by rfl) m_need_table k_need_table b_need_table .nil pass0 (pa_cons (pv 1) (pa_cons (pv 2) (pa_cons (pv 3) (pa_cons (pv 4) pa_nil))))))
    (pss_cons (ps_fld (pv 0) (pv 1) rfl)
    (pss_cons (ps_fld (pv 0) (pv 2) rfl)
    (pss_cons (ps_fld (pv 0) (pv 3) rfl)
    (pss_one (ps_fld (pv 0) (pe_frz (pe_dcompT (own := [("row", 5)]) (hu_of hr) (by rfl) sc_Reader_init.nd (pi_listK K (pe_callB (cr_sortedDT rfl hr.units) (by rfl) T.sorted (by decide +kernel) (pa_cons (pv 4) pa_nil))) (blkOk_by (own := [("row", 5)]) (N := ["self", "web", "other", "window", "table", "row"]) (sc := defScope t_Reader_init) (by decide +kernel)) (fun _ _ _ _ _ => (pg_name (i := 5) sc_Reader_init.nd rfl (.inl rfl))) (fun _ _ _ _ _ => (pv 5)) (fun _ _ _ _ _ => (pe_dget (hu_of hr) (pv 4) (pv 5) (fun _ _ => rfl))))) rfl)))))), ?_⟩
  have hd : NeedOk w v j U := hd
  have few : (rowsN w j).length ≤ 300 := by rw [rowsN_len hd.bw.toWOk]; exact hd.m
  refine q_drop (P := D .none) (ev_call (w, v, j, U) hd (ea_cons (ev_var h2) (ea3 (ev_var h3) (ev_var h4) (ev_var h5)))) g0 fun u S1 H1 g1 e1 _ => ?_
  have w1 := w0.step g0 e1
  have h2 := (WoT CW w).up e1.st h2
  have h3 := (WoT CW v).up e1.st h3
  have h4 := (D (nI (j + 1))).up e1.st h4
  have h5 := (DctT _).up e1.st h5
  refine q_fld (P := WoT CW w) (ev_var h2) ha_var RC.cl RC.source g1 w1 (by show 0 < 1000; decide) fun u1 S2 H2 g2 e2 w2 f1 => ?_
  have h3 := (WoT CW v).up e2 h3
  have h4 := (D (nI (j + 1))).up e2 h4
  have h5 := (DctT _).up e2 h5
  refine q_fld (P := WoT CW v) (ev_var h3) ha_var RC.cl RC.goal g2 w2 (by show 1 < 1000; decide) fun u2 S3 H3 g3 e3 w3 f2 => ?_
  have h4 := (D (nI (j + 1))).up e3 h4
  have h5 := (DctT _).up e3 h5
  refine q_fld (P := D (nI (j + 1))) (ev_var h4) ha_var RC.cl RC.wide g3 w3 (by show 2 < 1000; decide) fun u3 S4 H4 g4 e4 w4 f3 => ?_
  have h5 := (DctT _).up e4 h5
  refine s_fld (P := DctF (tb w j U)) (ev_dcF (rs := rowsN w j) U (ex_listD (enc := tI) (ev_sortR (ev_var h5))) (by omega) (rowsN_nodup w j) ?_) ha_var RC.cl RC.told g4 w4 (by show 3 < 1000; decide) fun u4 S5 H5 g5 e5 w5 f4 => ?_
  · rintro r S9 y e9 hr hy
    have h5 := (DctT _).up e9 h5
    exact ⟨_, eg_name, rfl, ev_var hy, ev_dget (ev_var h5) (ev_var hy) (lk_tb hr)⟩
  · exact k S5 H5 [u1, u2, u3, u4] g5 w5 (.cons ((WoT CW w).up (e3.trans (e4.trans e5)) f1) (.cons ((WoT CW v).up (e4.trans e5) f2) (.cons ((D _).up e5 f3) (.cons f4 .nil))))
/-- what comes next: the table told shorter, where there is a row to spare -/
def LaT (w : W) : Nat → Tb → KD.Ty
  | 0, _ => D .none
  | n + 1, U => ShT w n U
theorem ev_later {md : Md} {S : Hp} {σ : L2.St} {w : W} {m : Nat} {U : Tb} {E : XK} {t : V} (okw : WOk w) (hm : many w (m + 1) ≤ 600) (ht : (DctF (tb w m U)).ok S t) (s1 : σ[1]? = some (some (.int ((m + 1 : Nat) : Int)))) (s2 : σ[2]? = some (some t)) :
    Ev md S (tIf (tTest (tOp (rI0 fun i j => .bl (decide (j < i))) (tVar 1) (tC (.int 1)))) (tCall sp_shorter [] E (tCons (tVar 2) tNil)) (tC .non)) σ (LaT w m U) := by
  refine ev_if (b := decide (0 < m)) (et_val (Ev.eq (ev_opB (ev_var (Dd.int _) s1) ev_int) (by show PyData.bool _ = _; congr 1; exact decide_eq_decide.mpr (by omega)))) (fun hb => ?_) (fun hb => ?_)
  · obtain ⟨n, rfl⟩ : ∃ n, m = n + 1 := ⟨m - 1, by have := of_decide_eq_true hb; omega⟩
    exact ev_call (w, n, U) ⟨okw, hm⟩ (ea1 (ev_var ht s2))
  · have : m = 0 := by have := of_decide_eq_false hb; omega
    subst this
    exact fun S1 H R e o k => k _ S1 H (Gr.refl o) Dd.non
abbrev t_Reader_least : Stmt := inClass (top 23) 11
theorem sc_Reader_least : FnScope ["self", "window", "table", "later"] ["self"] (defScope t_Reader_least) := ⟨rfl, rfl, rfl, by decide +kernel, rfl, by decide +kernel, by decide +kernel⟩
theorem ok_Reader_least {f : Addr} {fd : FuncData} {CW CR : Addr} (WC : WebC K mg CW) (RC : RdrC K mg CR) (F : Fun K "least" "Reader.least" t_Reader_least f fd) (T : Txt mg)
    (C_Reader_init : If P w K mg base "Reader" CR 5 ["self", "web", "other", "window", "table"] (sp_Reader_init CW CR))
    (C_shorter : Df P w K mg base "shorter" 1 ["table"] sp_shorter)
    : FnOk P w K mg base CX0 7 f fd ["self"] (sp_Reader_least CW CR) := by
  obtain ⟨f_Reader_init, fd_Reader_init, G_Reader_init, m_Reader_init, mk_Reader_init, b_Reader_init⟩ := C_Reader_init.ex
  obtain ⟨f_shorter, fd_shorter, G_shorter, m_shorter, k_shorter, b_shorter⟩ := C_shorter.ex
  refine F.ok sc_Reader_least (fun vs H Q E h => by obtain ⟨_, _, _, _, hv, _⟩ := h; exact hv.len) (fun cdv A outer s H vs Q E hr h => ?_)
  obtain ⟨S, ⟨w, v, j, U0⟩, hd, hS, hv, k⟩ := h
  dsimp only at hd hv k
  have g0 : Gr md0 S H S H := Gr.refl (ok0 hS)
  obtain ⟨v1, rfl, h1⟩ := hv.one
  refine ⟨_, (pss_cons (ps_par (i := 1) (j := 2) (by rfl) sc_Reader_least.nd rfl rfl (by decide) rfl rfl (pa_cons (pe_fldK K (pv 0) rfl) (pa_cons (pe_fldK K (pv 0) rfl) pa_nil)) (by rfl))
    (pss_cons (ps_set (i := 3) sc_Reader_least.nd rfl (.inl rfl) (pe_ifExp (pt_cmpR op_gt (pv 1) pe_int (nomark _)) (pe_call G_shorter (hr.mono (by decide)) (by rfl) m_shorter k_shorter b_shorter .nil pass0 (pa_cons (pv 2) pa_nil)) pe_non))
    (pss_cons (ps_while PassesOwn.never (pt_cmpR op_notN (pv 3) pe_non (nomark _))
      (pss_cons (ps_par (i := 1) (j := 2) (by rfl) sc_Reader_least.nd rfl rfl (by decide) rfl rfl (pa_cons (pe_op op_sub (pv 1) pe_int) (pa_cons (pv 3) pa_nil)) (by rfl))
      (pss_one (ps_set (i := 3) sc_Reader_least.nd rfl (.inl rfl) (pe_ifExp (pt_cmpR op_gt (pv 1) pe_int (nomark _)) (pe_call G_shorter (hr.mono (by decide)) (by rfl) m_shorter k_shorter b_shorter .nil pass0 (pa_cons (pv 2) pa_nil)) pe_non)))))
    (pss_one (ps_ret (pe_make mk_Reader_init G_Reader_init (hr.mono (by decide)) (by rfl) m_Reader_init b_Reader_init .nil pass0 (pa_cons (pe_fldK K (pv 0) rfl) (pa_cons (pe_fldK K (pv 0) rfl) (pa_cons (pv 1) (pa_cons (pv 2) pa_nil)))))))))), ?_⟩
  have hd : NeedOk w v j U0 := hd
  have okw : WOk w := hd.bw.toWOk
  have hm := hd.m
  refine q_par (P := D (nI (j + 1))) (P1 := DctF (tb w j U0)) (ea2 (ev_fld (ev_var h1) RC.cl RC.wide rfl) (ev_fld (ev_var h1) RC.cl RC.told rfl)) g0 fun y1 y2 S1 H1 g1 e1 z1 z2 => ?_
  obtain rfl := D_int z1
  have h1 := (RoT CW CR w v j U0).up e1.st h1
  refine q_asg (P := LaT w j U0) (ev_later okw (by omega) z2 rfl rfl) g1 fun y3 S2 H2 g2 e2 z3 => ?_
  have h1 := (RoT CW CR w v j U0).up e2.st h1
  have z2 := (DctF _).up e2.st z2
  refine q_while (fun m σ S' _ => ∃ (U : Tb) (t l : V), σ = [some v1, some (.int ((m + 1 : Nat) : Int)), some t, some l] ∧ (DctF (tb w m U)).ok S' t ∧ (LaT w m U).ok S' l ∧ Same S2 S' ∧ lst w j U0 = lst w m U ∧ m ≤ j) j g2 ⟨U0, y2, y3, rfl, z2, z3, Same.refl _, rfl, Nat.le_refl _⟩ ?_
  rintro m σ1 S3 H3 g3 ⟨U, t, l, rfl, ht, hl, hss, hl1, hmj⟩
  have hmm : many w (m + 1) ≤ 600 := Nat.le_trans (many_mono okw (by omega)) (Nat.le_trans hm (by decide))
  -- is there a shorter one
  by_cases hc : ∃ n, m = n + 1 ∧ dep w n U = true
  · obtain ⟨n, rfl, hdep⟩ := hc
    have hl : (ShT w n U).ok S3 l := hl
    have hl2 : (DctF (tb w n fun p => U (ext1 w p))).ok S3 l := by
      have q : if dep w n U = true then (DctF (tb w n fun p => U (ext1 w p))).ok S3 l else l = .non := hl
      rw [if_pos hdep] at q
      exact q
    obtain ⟨dd, oo, rfl, hdd⟩ := id hl2
    refine ⟨true, et_val (fun S4 H4 R e o k => ⟨_, rfl, rfl, k _ S4 H4 (Gr.refl o) (Dd.bl true)⟩), fun _ S4 H4 g4 e4 => ?_, fun z => nomatch z⟩
    have hl4 := (DctF _).up e4.st hl2
    refine q_par (P := D (nI (n + 1))) (P1 := DctF (tb w n fun p => U (ext1 w p))) (ea2 (Ev.eq (ev_opI (g := fun i j => i - j) (ev_var (Dd.int _)) ev_int) (by show PyData.int _ = PyData.int _; congr 1; omega)) (ev_var hl4)) g4 fun x1 x2 S5 H5 g5 e5 q1 q2 => ?_
    obtain rfl := D_int q1
    refine s_asg (P := LaT w n fun p => U (ext1 w p)) (ev_later okw (Nat.le_trans (many_mono okw (by omega)) hmm) q2 rfl rfl) g5 fun x3 S6 H6 g6 e6 q3 => ⟨n, Nat.lt_succ_self n, S6, g6, _, x2, x3, rfl, (DctF _).up e6.st q2, q3, hss.trans (e4.st.trans (e5.st.trans e6.st)), ?_, by omega⟩
    rw [hl1]
    show (if dep w n U = true then _ else _) = _
    rw [hdep, if_pos rfl]
  · have hnon : l = .non := by
      cases m with
      | zero => exact D_non hl
      | succ n =>
        have q : if dep w n U = true then (DctF (tb w n fun p => U (ext1 w p))).ok S3 l else l = .non := hl
        rw [if_neg (fun z => hc ⟨n, rfl, z⟩)] at q
        exact q
    subst hnon
    have hlast : lst w m U = (m, U) := by
      cases m with
      | zero => rfl
      | succ n =>
        show (if dep w n U = true then _ else _) = _
        rw [if_neg (fun z => hc ⟨n, rfl, z⟩)]
    refine ⟨false, et_val (fun S4 H4 R e o k => ⟨_, rfl, rfl, k _ S4 H4 (Gr.refl o) (Dd.bl false)⟩), (fun z => nomatch z), fun _ S4 H4 g4 e4 => ?_⟩
    have h1 := (RoT CW CR w v j U0).up (hss.trans e4.st) h1
    have ht := (DctF _).up e4.st ht
    have rd : Rd w v m U := by
      have := hd.rd.least okw
      rw [hl1, hlast] at this
      exact this
    have hk := k
    rw [show lst w j U0 = (m, U) from hl1.trans hlast] at hk
    exact s_ret (ev_make (w, v, m, U) ⟨hd.bw, hd.bv, hd.aw, by have := hd.j4; show m ≤ 4; omega, (show many w (m + 1) ≤ 300 from Nat.le_trans (many_mono okw (by omega)) hm), rd⟩ (ea_cons (ev_fld (ev_var h1) RC.cl RC.source rfl) (ea3 (ev_fld (ev_var h1) RC.cl RC.goal rfl) (ev_var (Dd.int _)) (Ev.conv (ev_var ht) fun _ _ => DctF.t)))) g4 hk
end
end K49
end
section
set_option linter.all false
set_option maxRecDepth 100000
set_option maxHeartbeats 4000000
namespace K49
open PySem PySem.Spec PyProof.Rows L2 KR KD
open TL (tl numL tl_num numL_inj len_tl numL_len numL_ne int_num numL_free numL_digits numL_lt tl_mk mk_tl ext_tl tl_ofString tl_append split_join tl_join joinL join_eq)
/-- a number's text -/
def dS (n : Nat) : Str := Str.ofString (toString ((n : Nat) : Int))
theorem tl_dS (n : Nat) : tl (dS n) = numL n := tl_num n
theorem dS_inj {m n : Nat} (h : dS m = dS n) : m = n := numL_inj (by rw [← tl_dS, ← tl_dS, h])
theorem dS_len {n k : Nat} (hk : 0 < k) (h : n < 10 ^ k) : (dS n).length ≤ k := by
  rw [len_tl, tl_dS]
  exact numL_len hk h
theorem dS_pos (n : Nat) : 1 ≤ (dS n).length := by
  rw [len_tl, tl_dS]
  exact List.length_pos_iff.mpr (numL_ne n)
def ssD (ys : List Str) : PyData := .list (ys.map PyData.str)
variable {md : Md} {S : Hp} {K : PySem.W.Frag} {σ : L2.St} {ta te to : TE}
theorem dd_strs (S : Hp) : ∀ ys : List Str, DdAll S (ys.map V.str) (ys.map PyData.str)
  | [] => .nil
  | y :: ys => .cons (Dd.str y) (dd_strs S ys)
theorem strs_of {xs : List V} : ∀ {ys : List Str}, DdAll S xs (ys.map PyData.str) → xs = ys.map V.str
  | [], h => by cases h; rfl
  | y :: ys, h => by
    cases h with
    | cons h1 h2 =>
      have h1' : Dd S _ (.str y) := h1
      cases h1'
      rw [strs_of h2]
      rfl
/-- str(n) -/
theorem ev_strI {n : Nat} (hn : n < 10000) (h : Ev md S te σ (D (nI n))) : Ev md S (tCB (fun xs H Q => ∃ i, xs = [V.int i] ∧ i.natAbs.log2 < 1920 ∧ Q (.str (toString i)) H) (tCons te tNil)) σ (D (.str (dS n))) :=
  ev_cb (ea1 h) fun S1 vs e hv H R b k => by
    obtain ⟨v, rfl, hw⟩ := hv.one
    obtain rfl := D_int hw
    refine ⟨_, rfl, ?_, k _ _ _ (Gr.refl b) (Dd.str _)⟩
    show (((n : Nat) : Int).natAbs).log2 < 1920
    rw [Int.natAbs_natCast]
    by_cases z : n = 0
    · subst z
      decide
    · exact Nat.lt_of_lt_of_le ((Nat.log2_lt z).mpr (Nat.lt_of_lt_of_le hn (by decide : 10000 ≤ 2 ^ 14))) (by decide)
/-- int(text of n) -/
theorem ev_intS {n : Nat} (hn : n < 10000) (h : Ev md S te σ (D (.str (dS n)))) : Ev md S (tCB (fun xs H Q => ∃ a n, xs = [V.str a] ∧ PySem.intText? a = some n ∧ a.length ≤ 640 ∧ Q (.int n) H) (tCons te tNil)) σ (D (nI n)) :=
  ev_cb (ea1 h) fun S1 vs e hv H R b k => by
    obtain ⟨v, rfl, hw⟩ := hv.one
    obtain rfl := D_str hw
    have l : (dS n).length ≤ 4 := dS_len (by decide) hn
    exact ⟨_, n, rfl, int_num (by rw [← tl_dS, ← len_tl]; omega), by omega, k _ _ _ (Gr.refl b) (Dd.int _)⟩
/-- len of a text -/
theorem ev_lenS {z : Str} (hz : z.length ≤ 1000000) (h : Ev md S te σ (D (.str z))) : Ev md S (tCB (fun xs H Q => ∃ z, xs = [V.str z] ∧ z.length ≤ sizeLine ∧ Q (.int z.length) H) (tCons te tNil)) σ (D (nI z.length)) :=
  ev_cb (ea1 h) fun S1 vs e hv H R b k => by
    obtain ⟨v, rfl, hw⟩ := hv.one
    obtain rfl := D_str hw
    exact ⟨z, rfl, by rw [sizeLine_eq]; omega, k _ _ _ (Gr.refl b) (Dd.int _)⟩
theorem ev_eqS {a b : Str} (h1 : Ev md S ta σ (D (.str a))) (h2 : Ev md S te σ (D (.str b))) : Ev md S (tOp rEq ta te) σ (D (.bool (decide (a = b)))) := fun S1 H R e o k =>
  h1 S1 H _ e o fun x S2 H2 g2 hx => h2 S2 H2 _ (e.trans g2.st) g2.k fun y S3 H3 g3 hy => by
    obtain rfl := D_str hx
    obtain rfl := D_str hy
    refine ⟨rfl, k _ S3 H3 (g2.trans g3) ?_⟩
    rw [show decide (V.str a = V.str b) = decide (a = b) from decide_eq_decide.mpr ⟨fun z => by injection z, fun z => by rw [z]⟩]
    exact Dd.bl _
theorem ev_neS {a b : Str} (h1 : Ev md S ta σ (D (.str a))) (h2 : Ev md S te σ (D (.str b))) : Ev md S (tOp rNe ta te) σ (D (.bool (!decide (a = b)))) := fun S1 H R e o k =>
  h1 S1 H _ e o fun x S2 H2 g2 hx => h2 S2 H2 _ (e.trans g2.st) g2.k fun y S3 H3 g3 hy => by
    obtain rfl := D_str hx
    obtain rfl := D_str hy
    refine ⟨rfl, k _ S3 H3 (g2.trans g3) ?_⟩
    rw [show decide (V.str a = V.str b) = decide (a = b) from decide_eq_decide.mpr ⟨fun z => by injection z, fun z => by rw [z]⟩]
    exact Dd.bl _
/-- y.join(parts) -/
theorem ev_join {y : Str} {ys : List Str} (hy : (ys.map (·.length)).sum + ys.length * y.length ≤ 16777216) (h1 : Ev md S to σ (D (.str y))) (h2 : Ev md S te σ (D (ssD ys))) : Ev md S (tM1 (rJoinS K) to te) σ (D (.str (Txt.join y ys))) := fun S1 H R e o k =>
  h1 S1 H _ e o fun x S2 H2 g2 hx => by
    obtain rfl := D_str hx
    refine ⟨⟨_, rfl⟩, h2 S2 H2 _ (e.trans g2.st) g2.k fun v S3 H3 g3 hv => ?_⟩
    obtain ⟨p, xs, rfl, e1, e2⟩ := D_lst.1 hv
    have := strs_of (KD.All.toD e2)
    subst this
    exact ⟨y, p, ys, rfl, rfl, .inl (SqL.of (g3.k.le _ _ e1)), hy, k _ S3 H3 (g2.trans g3) (Dd.str _)⟩
/-- x.split(y) -/
theorem ev_split {x y : Str} (hy : (y.length == 0) = false) (hx : x.length ≤ 1000000) (h1 : Ev md S to σ (D (.str x))) (h2 : Ev md S te σ (D (.str y))) : Ev md S (tM1 (fun x xs H Q => ∃ a b, x = V.str a ∧ xs = [V.str b] ∧ (b.length == 0) = false ∧ a.length + 2 ≤ sizeLine ∧ rNewStrs (Txt.split a b) H Q) to te) σ (D (ssD (Txt.split x y))) := fun S1 H R e o k =>
  h1 S1 H _ e o fun v S2 H2 g2 hv => by
    obtain rfl := D_str hv
    refine ⟨⟨_, rfl⟩, h2 S2 H2 _ (e.trans g2.st) g2.k fun u S3 H3 g3 hu => ?_⟩
    obtain rfl := D_str hu
    refine ⟨x, y, rfl, rfl, hy, by rw [sizeLine_eq]; omega, fun p hp => ?_⟩
    have n := g3.k.new (o := .lst ((Txt.split x y).map V.str)) hp
    exact k _ _ _ ((g2.trans g3).trans n) (Dd.lst upd_same (dd_strs _ _))
/-- x[lo:hi] -/
theorem ev_slS {z : Str} {lo hi : Option Int} {tl' th : TO} (hz : z.length ≤ 1000000) (h : Ev md S te σ (D (.str z))) (h1 : EvO md S tl' σ lo) (h2 : EvO md S th σ hi) : Ev md S (tSl rSlS te tl' th) σ (D (.str (cutS z lo hi))) := fun S1 H R a o k =>
  h S1 H _ a o fun v S2 H2 g2 hv => h1 S2 H2 _ (a.trans g2.st) g2.k fun S3 H3 g3 => h2 S3 H3 _ ((a.trans g2.st).trans g3.st) g3.k fun S4 H4 g4 => by
    obtain rfl := D_str hv
    exact ⟨z, rfl, by rw [sizeLine_eq]; omega, k _ S4 H4 ((g2.trans g3).trans g4) (Dd.str _)⟩
/-- the signs of a text -/
theorem ex_str {z : Str} (h : Ev md S te σ (D (.str z))) : EvX md S (iStr te) σ (tl z) (fun c S x => x = .str ⟨#[c]⟩) := fun S1 H R a o k =>
  h S1 H _ a o fun v S2 H2 g2 hv => by
    obtain rfl := D_str hv
    have hl : (tl z).length = z.cps.size := Array.length_toList
    refine ⟨z, rfl, k _ S2 H2 g2 ⟨fun i S3 H3 _ _ hi => ?_, fun S3 H3 _ _ => ?_, fun i S3 H3 x H' _ o3 hi y => ?_⟩⟩
    · show i < z.cps.size
      omega
    · show z.cps.size ≤ (tl z).length
      omega
    · obtain ⟨rfl, c, hc, rfl⟩ := y
      exact ⟨S3, Gr.refl o3, c, by show z.cps.toList[i]? = some c; rw [Array.getElem?_toList]; exact hc, rfl⟩
end K49
end
section
set_option linter.all false
set_option maxRecDepth 100000
set_option maxHeartbeats 4000000
namespace K49
open PySem PySem.Spec PyProof.Rows L2 KR KD KB
open TL (tl numL tl_num numL_inj len_tl numL_len numL_ne int_num numL_free numL_digits numL_lt tl_mk mk_tl ext_tl tl_ofString tl_append split_join tl_join joinL join_eq)
def sp_number_in : Sp := spP (α := Nat) (fun n => n < 10000) (fun n => [D (.str (dS n))]) (fun n => D (nI n))
theorem ev_inSign {md : Md} {S : Hp} {σ : L2.St} {ta tb' : TE} {c : Nat} {z : Str} (h1 : Ev md S ta σ (D (.str ⟨#[c]⟩))) (h2 : Ev md S tb' σ (D (.str z))) : Ev md S (tOp (fun x y H Q => ∃ (c : Nat) (z : Str), x = V.str ⟨#[c]⟩ ∧ y = .str z ∧ Q (.bl (decide (c ∈ z.cps.toList))) H) ta tb') σ (D (.bool (decide (c ∈ tl z)))) := fun S1 H R e o k =>
  h1 S1 H _ e o fun x S2 H2 g2 hx => h2 S2 H2 _ (e.trans g2.st) g2.k fun y S3 H3 g3 hy => by
    obtain rfl := D_str hx
    obtain rfl := D_str hy
    exact ⟨c, z, rfl, rfl, k _ S3 H3 (g2.trans g3) (Dd.bl _)⟩
theorem figs : tl (Str.ofString "0123456789") = [48, 49, 50, 51, 52, 53, 54, 55, 56, 57] := by
  rw [tl_ofString]
  decide
section
variable {P : Program} {w : World} {K : PySem.W.Frag} {mg : Str → Option Value} {base : Heap}
abbrev t_number_in : Stmt := top 27
theorem sc_number_in : FnScope ["word", "sign"] ["word"] (defScope t_number_in) := ⟨rfl, rfl, rfl, by decide +kernel, rfl, by decide +kernel, by decide +kernel⟩
theorem ok_number_in {f : Addr} {fd : FuncData} (F : Fun K "number_in" "number_in" t_number_in f fd) (T : Txt mg)
    : FnOk P w K mg base CX0 1 f fd ["word"] sp_number_in := by
  refine F.ok sc_number_in (fun vs H Q E h => by obtain ⟨_, _, _, _, hv, _⟩ := h; exact hv.len) (fun cdv A outer s H vs Q E hr h => ?_)
  obtain ⟨S, n, hd, hS, hv, k⟩ := h
  dsimp only at hd hv k
  have g0 : Gr md0 S H S H := Gr.refl (ok0 hS)
  obtain ⟨v1, rfl, h1⟩ := hv.one
  refine ⟨_, (pss_cons (ps_if (PW.pt (pw_or (pt_not (pt_chain op_le op_le pe_int (pe_callB call_len_str (by rfl) T.len PySem.boot_len (pa_cons (pv 0) pa_nil)) (pe_globI (by rfl) T.MOST_FIGURES))) (pw_or1 (pt_not (pt_val (pe_callB (cr_allK K rfl) (by rfl) T.all (by decide +kernel) (pa_cons (pe_lc (own := [("sign", 1)]) (by rfl) sc_number_in.nd (pi_str (pv 0)) (blkOk_by (own := [("sign", 1)]) (N := ["word", "sign"]) (sc := defScope t_number_in) (by decide +kernel)) (fun _ _ _ _ _ => (pg_name (i := 1) sc_number_in.nd rfl (.inl rfl))) (fun _ _ _ _ _ => pts_nil) (fun _ _ _ _ _ => (pe_cmpR op_in_sign (pv 1) (pe_globS (by rfl) T.FIGURES) (by rfl)))) pa_nil)))))))
      (pss_one (ps_ret pe_non))
      pss_nil)
    (pss_one (ps_ret (pe_ifExp (pt_cmpR op_eq (pv 0) (pe_callTy call_str_int (by rfl) T.str (by decide +kernel) (pa_cons (pe_callTy call_int_str (by rfl) T.int (by decide +kernel) (pa_cons (pv 0) pa_nil)) pa_nil)) (nomark _)) (pe_callTy call_int_str (by rfl) T.int (by decide +kernel) (pa_cons (pv 0) pa_nil)) pe_non)))), ?_⟩
  have hd : n < 10000 := hd
  have l4 : (dS n).length ≤ 4 := dS_len (by decide) hd
  have l1 := dS_pos n
  refine q_ifF (et_or (a := false) (b := false) (et_not (a := true) (et_val (Ev.eq (ev_chain ev_int (ev_lenS (by omega) (ev_var h1)) ev_int) (by show PyData.bool (decide ((1 : Int) ≤ ((dS n).length : Nat)) && decide ((((dS n).length : Nat) : Int) ≤ 6)) = _; rw [decide_eq_true (by omega), decide_eq_true (by omega)]; rfl)))) fun _ => et_not (a := true) (et_val (Ev.eq (ev_all (bs := (tl (dS n)).map fun _ => true) (Ev.eq (xl_YD (xs := tl (dS n)) (fun _ => PyData.bool true) (ex_str (ev_var h1)) (by rw [← len_tl]; omega) ?_) (by rw [List.map_map]; rfl))) ?_))) g0 fun S1 H1 g1 e1 => ?_
  · rintro c S2 x e hc rfl
    refine ⟨_, eg_name, rfl, Ev.eq (ev_inSign (ev_var (Dd.str _)) (ev_c (fun _ => Dd.str _))) ?_⟩
    have hc : c ∈ numL n := by rw [← tl_dS]; exact hc
    have := numL_digits n c hc
    have hm : c ∈ tl (Str.ofString "0123456789") := by
      rw [figs]
      simp
      omega
    show PyData.bool (decide (c ∈ tl (Str.ofString "0123456789"))) = _
    rw [decide_eq_true hm]
  · rw [List.all_map]
    congr 1
    exact List.all_eq_true.mpr fun _ _ => rfl
  · have h1 := (D _).up e1.st h1
    refine s_ret (ev_if (b := true) (et_val (Ev.eq (ev_eqS (ev_var h1) (ev_strI hd (ev_intS hd (ev_var h1)))) (by rw [decide_eq_true rfl]))) (fun _ => ev_intS hd (ev_var h1)) fun z => nomatch z) g1 k
end
end K49
end
section
set_option linter.all false
set_option maxRecDepth 100000
set_option maxHeartbeats 4000000
namespace K49
open PySem PySem.Spec PyProof.Rows L2 KR KD KB
open TL (tl numL tl_num numL_inj len_tl numL_len numL_ne int_num numL_free numL_digits numL_lt tl_mk mk_tl ext_tl tl_ofString tl_append split_join tl_join joinL join_eq)
/-- an own __eq__, asked by != -/
structure Ef (P : Program) (w : World) (K : PySem.W.Frag) (mg : Str → Option Value) (base : Heap) (C : Addr) (k : Nat) (ps : List Str) (sp : Sp) : Prop where
  ex : ∃ f fd, FnOk P w K mg base CX0 k f fd ps sp ∧ NeCls K C f ∧ Binds K fd ps []
/-! ### the texts -/
def spS : Str := Str.ofString " "
def nlS : Str := Str.ofString "\n"
def lookS : Str := Str.ofString "look"
def arrS : Str := Str.ofString "->"
theorem tl_spS : tl spS = [32] := by unfold spS; rw [tl_ofString]; rfl
theorem tl_nlS : tl nlS = [10] := by unfold nlS; rw [tl_ofString]; rfl
theorem tl_lookS : tl lookS = [108, 111, 111, 107] := by unfold lookS; rw [tl_ofString]; rfl
theorem tl_arrS : tl arrS = [45, 62] := by unfold arrS; rw [tl_ofString]; rfl
theorem kind_le {y : Str} (h : (tl y).all (· < 256) = true) : y.cps.all (· < 256) = true := by
  rw [← Array.all_toList]
  exact h
theorem split_sp {ps : List Str} (hne : ps ≠ []) (hp : ∀ p ∈ ps, 32 ∉ tl p) : Txt.split (Txt.join spS ps) spS = ps := split_join tl_spS (kind_le (by rw [tl_spS]; decide)) hne hp
theorem split_nl {ps : List Str} (hne : ps ≠ []) (hp : ∀ p ∈ ps, 10 ∉ tl p) : Txt.split (Txt.join nlS ps) nlS = ps := split_join tl_nlS (kind_le (by rw [tl_nlS]; decide)) hne hp
theorem dS_free {n s : Nat} (h : s < 48 ∨ 57 < s) : s ∉ tl (dS n) := by rw [tl_dS]; exact numL_free h
/-- the head line; a rule's line -/
def headS (n : Nat) : Str := Txt.join spS [lookS, dS n]
def lineW (r : List Nat) (t : Nat) : List Str := r.map dS ++ [arrS, dS t]
def lineS (r : List Nat) (t : Nat) : Str := Txt.join spS (lineW r t)
theorem head_words (n : Nat) : Txt.split (headS n) spS = [lookS, dS n] := split_sp (by simp) fun p hp => by
  rcases List.mem_cons.mp hp with rfl | hp
  · rw [tl_lookS]; decide
  · rw [List.mem_singleton.mp hp]
    exact dS_free (.inl (by decide))
theorem line_words (r : List Nat) (t : Nat) : Txt.split (lineS r t) spS = lineW r t := split_sp (by simp [lineW]) fun p hp => by
  rcases List.mem_append.mp hp with hp | hp
  · obtain ⟨a, _, rfl⟩ := List.mem_map.mp hp
    exact dS_free (.inl (by decide))
  · rcases List.mem_cons.mp hp with rfl | hp
    · rw [tl_arrS]; decide
    · rw [List.mem_singleton.mp hp]
      exact dS_free (.inl (by decide))
theorem joinL_len (s : Nat) : ∀ ps : List (List Nat), (joinL [s] ps).length ≤ (ps.map (·.length + 1)).sum
  | [] => Nat.zero_le _
  | [p] => by
    show p.length ≤ _
    simp
  | p :: q :: r => by
    show (p ++ ([s] ++ joinL [s] (q :: r))).length ≤ _
    have := joinL_len s (q :: r)
    rw [List.length_append, List.length_append, List.map_cons, List.sum_cons]
    show p.length + (1 + (joinL [s] (q :: r)).length) ≤ _
    omega
theorem join_len {y : Str} {s : Nat} (hy : tl y = [s]) (ps : List Str) : (Txt.join y ps).length ≤ (ps.map fun p => p.length + 1).sum := by
  rw [len_tl, join_eq, tl_join, hy]
  refine Nat.le_trans (joinL_len s _) ?_
  rw [List.map_map]
  refine Nat.le_of_eq (congrArg List.sum (List.map_congr_left fun p _ => ?_))
  show (tl p).length + 1 = p.length + 1
  rw [len_tl]
theorem head_len {n : Nat} (h : n < 10000) : (headS n).length ≤ 100 := by
  have := join_len tl_spS [lookS, dS n]
  have h1 : lookS.length = 4 := by rw [len_tl, tl_lookS]; rfl
  have h2 : (dS n).length ≤ 4 := dS_len (by decide) h
  refine Nat.le_trans this ?_
  simp only [List.map_cons, List.map_nil, List.sum_cons, List.sum_nil]
  omega
theorem sum_le_all {xs : List Nat} {b : Nat} (h : ∀ x ∈ xs, x ≤ b) : xs.sum ≤ xs.length * b := by
  induction xs with
  | nil => simp
  | cons x xs ih =>
    rw [List.sum_cons, List.length_cons, Nat.succ_mul]
    have := h x List.mem_cons_self
    have := ih fun y hy => h y (List.mem_cons_of_mem _ hy)
    omega
theorem line_len {r : List Nat} {t : Nat} (hr : ∀ a ∈ r, a < 10000) (ht : t < 10000) (hl : r.length ≤ 10) : (lineS r t).length ≤ 100 := by
  have := join_len tl_spS (lineW r t)
  refine Nat.le_trans this (Nat.le_trans (sum_le_all (b := 5) fun x hx => ?_) ?_)
  · obtain ⟨p, hp, rfl⟩ := List.mem_map.mp hx
    rcases List.mem_append.mp hp with hp | hp
    · obtain ⟨a, ha, rfl⟩ := List.mem_map.mp hp
      have : (dS a).length ≤ 4 := dS_len (by decide) (hr a ha)
      omega
    · rcases List.mem_cons.mp hp with rfl | hp
      · have h1 : arrS.length = 2 := by rw [len_tl, tl_arrS]; rfl
        omega
      · rw [List.mem_singleton.mp hp]
        have : (dS t).length ≤ 4 := dS_len (by decide) ht
        omega
  · rw [List.length_map]
    unfold lineW
    rw [List.length_append, List.length_map]
    show (r.length + 2) * 5 ≤ 100
    omega
section
variable {md : Md} {S : Hp} {K : PySem.W.Frag} {σ : L2.St} {ta te : TE}
theorem ev_str {z : Str} : Ev md S (tC (.str z)) σ (D (.str z)) := ev_c fun _ => Dd.str z
theorem ev_isN {i : Int} (h : Ev md S ta σ (D (.int i))) : Ev md S (tOp (fun x y H Q => y = V.non ∧ Q (.bl (decide (x = .non))) H) ta (tC .non)) σ (D (.bool false)) := fun S1 H R e o k =>
  h S1 H _ e o fun v S2 H2 g2 hv => by
    obtain rfl := D_int hv
    exact ⟨rfl, k _ S2 H2 g2 (Dd.bl _)⟩
end
def sp_head_window : Sp := spP (α := Nat) (fun n => 1 ≤ n ∧ n ≤ 6) (fun n => [D (.str (headS n))]) (fun n => D (nI n))
section
variable {P : Program} {w : World} {K : PySem.W.Frag} {mg : Str → Option Value} {base : Heap}
abbrev t_head_window : Stmt := top 28
theorem sc_head_window : FnScope ["row", "words", "window"] ["row"] (defScope t_head_window) := ⟨rfl, rfl, rfl, by decide +kernel, rfl, by decide +kernel, by decide +kernel⟩
theorem ok_head_window {f : Addr} {fd : FuncData} (F : Fun K "head_window" "head_window" t_head_window f fd) (T : Txt mg)
    (C_number_in : Df P w K mg base "number_in" 1 ["word"] sp_number_in)
    : FnOk P w K mg base CX0 2 f fd ["row"] sp_head_window := by
  obtain ⟨f_number_in, fd_number_in, G_number_in, m_number_in, k_number_in, b_number_in⟩ := C_number_in.ex
  refine F.ok sc_head_window (fun vs H Q E h => by obtain ⟨_, _, _, _, hv, _⟩ := h; exact hv.len) (fun cdv A outer s H vs Q E hr h => ?_)
  obtain ⟨S, n, hd, hS, hv, k⟩ := h
  dsimp only at hd hv k
  have g0 : Gr md0 S H S H := Gr.refl (ok0 hS)
  obtain ⟨v1, rfl, h1⟩ := hv.one
  refine ⟨_, (pss_cons (ps_set (i := 1) sc_head_window.nd rfl (.inl rfl) (pe_split (pv 0) pe_str))
    (pss_cons (ps_set (i := 2) sc_head_window.nd rfl (.inl rfl) (pe_ifExp (PW.pt (pw_and (pt_cmpR op_eq (pe_callB (call_lenK K) (by rfl) T.len PySem.boot_len (pa_cons (pv 1) pa_nil)) pe_int (nomark _)) (pw_and1 (pt_cmpR op_eq (pe_ix (ix_listK K) (pv 1) pe_int (fun _ _ => rfl)) pe_str (nomark _))))) (pe_call G_number_in (hr.mono (by decide)) (by rfl) m_number_in k_number_in b_number_in .nil pass0 (pa_cons (pe_ix (ix_listK K) (pv 1) pe_int (fun _ _ => rfl)) pa_nil)) pe_non))
    (pss_cons (ps_if (PW.pt (pw_or (pt_cmpR op_isN (pv 2) pe_non (nomark _)) (pw_or1 (pt_cmpR op_eq (pv 2) pe_int (nomark _)))))
      (pss_one ps_never)
      pss_nil)
    (pss_cons (ps_if (pt_cmpR op_gt (pv 2) (pe_globI (by rfl) T.MOST_WINDOW) (nomark _))
      (pss_one ps_never)
      pss_nil)
    (pss_one (ps_ret (pv 2))))))), ?_⟩
  obtain ⟨n1, n6⟩ := hd
  have n1 : 1 ≤ n := n1
  have n6 : n ≤ 6 := n6
  refine q_asg (P := D (ssD [lookS, dS n])) (Ev.eq (ev_split (y := spS) (by decide) (Nat.le_trans (head_len (by omega)) (by decide)) (ev_var h1) ev_str) (by rw [head_words])) g0 fun v2 S1 H1 g1 e1 h2 => ?_
  refine q_asg (P := D (nI n)) (ev_if (b := true) (et_and (a := true) (b := true) (et_val (Ev.eq (ev_eqI (ev_lenDL (ds := [lookS, dS n].map PyData.str) (ev_var h2)) ev_int) rfl)) fun _ => et_val (Ev.eq (ev_eqS (ev_ixL (P := D (.str lookS)) (D_lst.1 h2 |> fun q => ev_var q) ev_int rfl rfl) ev_str) (congrArg PyData.bool (decide_eq_true (show lookS = Str.ofString "look" from rfl))))) (fun _ => ev_call n (by show n < 10000; omega) (ea1 (ev_ixL (P := D (.str (dS n))) (D_lst.1 h2 |> fun q => ev_var q) ev_int rfl rfl))) fun z => nomatch z) g1 fun v3 S2 H2 g2 e2 h3 => ?_
  refine q_ifF (et_or (a := false) (b := false) (et_val (ev_isN (ev_var h3))) fun _ => et_val (Ev.eq (ev_eqI (ev_var h3) ev_int) (by congr 1; exact decide_eq_false (by omega)))) g2 fun S3 H3 g3 e3 => ?_
  have h3 := (D _).up e3.st h3
  refine q_ifF (et_val (Ev.eq (ev_opB (ev_var h3) ev_int) (by show PyData.bool (decide ((6 : Int) < (n : Nat))) = _; rw [decide_eq_false (by omega)]))) g3 fun S4 H4 g4 e4 => ?_
  exact s_ret (ev_var ((D _).up e4.st h3)) g4 k
end
theorem rp_dS (a : Nat) : Txt.removeprefix (dS a) (Str.ofString "!") = dS a := by
  have h : Builtin.Str.subAt (dS a) (Str.ofString "!") 0 = false := by
    cases q : Builtin.Str.subAt (dS a) (Str.ofString "!") 0 with
    | false => rfl
    | true =>
      exfalso
      unfold Builtin.Str.subAt at q
      have q2 := eq_of_beq q
      have e : tl (Str.ofString "!") = [33] := by rw [tl_ofString]; rfl
      have e2 := congrArg Array.toList q2
      have e3 : ((dS a).cps.extract 0 (0 + (Str.ofString "!").length)).toList = [33] := e2.trans e
      have : 33 ∈ tl (dS a) := by
        have m : 33 ∈ ((dS a).cps.extract 0 (0 + (Str.ofString "!").length)).toList := by rw [e3]; exact List.mem_singleton.mpr rfl
        rw [Array.toList_extract, List.extract_eq_take_drop] at m
        exact List.mem_of_mem_drop (List.mem_of_mem_take m)
      exact dS_free (.inl (by decide)) this
  unfold Txt.removeprefix
  rw [h]
  rfl
theorem dS_not {a : Nat} {z : Str} {c : Nat} (hz : c ∈ tl z) (hc : c < 48 ∨ 57 < c) : ¬ dS a = z := fun e => dS_free hc (e ▸ hz)
theorem cut_not {a : Nat} {z : Str} {c : Nat} {lo hi : Option Int} (hz : c ∈ tl z) (hc : c < 48 ∨ 57 < c) : ¬ cutS (dS a) lo hi = z := fun e => by
  rw [← e] at hz
  have : c ∈ tl (dS a) := List.mem_of_mem_drop (List.mem_of_mem_take hz)
  exact dS_free hc this
section
variable {md : Md} {S : Hp} {K : PySem.W.Frag} {σ : L2.St} {ta te tx : TE}
/-- {'b': 0, 'e': 1}.get(t, x), t none of the two -/
theorem ev_side {t : Str} {x : Int} (hb : ¬ t = Str.ofString "b") (he : ¬ t = Str.ofString "e") (h1 : Ev md S te σ (D (.str t))) (h2 : Ev md S tx σ (D (.int x))) :
    Ev md S (tDGet2 (tDisp [(tC (.str (Str.ofString "b")), tC (.int 0)), (tC (.str (Str.ofString "e")), tC (.int 1))]) te tx) σ (D (.int x)) := fun S1 H R e o k => by
  intro p hp
  have n1 := o.newL (o := .dK []) hp
  refine ⟨upd_same, [(Sum.inr (Str.ofString "b"), .int 0), (Sum.inr (Str.ofString "e"), .int 1)], rfl, by decide, ?_⟩
  generalize hm : mergeK [] [((Sum.inr (Str.ofString "b") : L2.Key), V.int 0), (Sum.inr (Str.ofString "e"), .int 1)] = kvs
  have hkv : valV kvs (Sum.inr t) = none := by
    rw [← hm]
    have n1 : ¬ (Sum.inr (Str.ofString "b") : L2.Key) = Sum.inr t := fun z => hb (Sum.inr.inj z).symm
    have n2 : ¬ (Sum.inr (Str.ofString "e") : L2.Key) = Sum.inr t := fun z => he (Sum.inr.inj z).symm
    have : mergeK [] [((Sum.inr (Str.ofString "b") : L2.Key), V.int 0), (Sum.inr (Str.ofString "e"), .int 1)] = [(Sum.inr (Str.ofString "b"), .int 0), (Sum.inr (Str.ofString "e"), .int 1)] := by decide +kernel
    rw [this]
    unfold valV
    simp [n1, n2]
  have gm := n1.mut (o := .dK kvs) hp (o.le.free hp)
  refine ⟨p, rfl, .inl ⟨kvs, .inl upd_same⟩, h1 S1 _ _ e gm.k fun y S3 H3 g3 hy => h2 S3 H3 _ (e.trans g3.st) g3.k fun z S4 H4 g4 hz => ?_⟩
  obtain rfl := D_str hy
  obtain rfl := D_int hz
  obtain ⟨q3, s3⟩ := g3.keep (o.le.free hp) upd_same (gm.nm hp)
  obtain ⟨q4, s4⟩ := g4.keep s3 q3 (gm.nm hp)
  refine ⟨none, .inl ⟨kvs, Sum.inr t, .inl q4, rfl, hkv.symm⟩, k _ S4 H4 ((gm.trans g3).trans g4) (Dd.int _)⟩
theorem ev_rp {a : Nat} (hl : (dS a).length ≤ 1000) (h : Ev md S te σ (D (.str (dS a)))) : Ev md S (tBM K "str" (fun x xs H Q => ∃ a b, x = V.str a ∧ xs = [V.str b] ∧ a.length ≤ sizeLine ∧ Q (.str (Txt.removeprefix a b)) H) te (tCons (tC (.str (Str.ofString "!"))) tNil)) σ (D (.str (dS a))) := fun S1 H R e o k =>
  h S1 H _ e o fun v S2 H2 g2 hv => by
    obtain rfl := D_str hv
    refine ⟨rfl, dS a, Str.ofString "!", rfl, rfl, by rw [sizeLine_eq]; omega, ?_⟩
    rw [rp_dS]
    exact k _ S2 H2 g2 (Dd.str _)
theorem ev_lenOwn {CW CR : Addr} {w : W} {E : XK} (hl : w.2.length ≤ 1000) (h : Ev md S te σ (WoT CW w)) : Ev md S (tCB (rLenOwn CW (sp_Web_len CW CR) E) (tCons te tNil)) σ (D (nI w.2.length)) := fun S1 H R e o k =>
  ea1 h S1 H _ e o fun vs S2 H2 g2 hv => by
    obtain ⟨v, rfl, hw⟩ := hv.one
    obtain ⟨a, dx, us, rfl, h1, h2⟩ := id hw
    refine ⟨a, dx, _, rfl, g2.k.le _ _ h1, S2, w, trivial, g2.k.le, .cons hw .nil, fun z S3 H3 g3 hz => ?_⟩
    obtain rfl := D_int hz
    exact ⟨_, rfl, by omega, by omega, k _ S3 H3 (g2.trans (g3.lift g2.k)) (Dd.int _)⟩
end
def sp_arrows_of (CW CR : Addr) : Sp := spP (α := W × Nat) (fun a => Wb a.1 ∧ a.2 < a.1.2.length) (fun a => [WoT CW a.1, D (.str (dS a.2))]) (fun a => D (lI [a.2]))
section
variable {P : Program} {w : World} {K : PySem.W.Frag} {mg : Str → Option Value} {base : Heap}
abbrev t_arrows_of : Stmt := top 29
theorem sc_arrows_of : FnScope ["web", "word", "plain", "every", "some", "side", "number", "at", "pair"] ["web", "word"] (defScope t_arrows_of) := ⟨rfl, rfl, rfl, by decide +kernel, rfl, by decide +kernel, by decide +kernel⟩
theorem ok_arrows_of {f : Addr} {fd : FuncData} {CW CR : Addr} (WC : WebC K mg CW) (RC : RdrC K mg CR) (F : Fun K "arrows_of" "arrows_of" t_arrows_of f fd) (T : Txt mg)
    (C_Web_len : Mf P w K mg base CW "__len__" 1 ["self"] (sp_Web_len CW CR))
    (C_Web_arrows : Mf P w K mg base CW "arrows" 1 ["self"] (sp_Web_arrows CW CR))
    (C_Web_rooms : Mf P w K mg base CW "rooms" 1 ["self"] (sp_Web_rooms CW CR))
    (C_number_in : Df P w K mg base "number_in" 1 ["word"] sp_number_in)
    : FnOk P w K mg base CX0 3 f fd ["web", "word"] (sp_arrows_of CW CR) := by
  obtain ⟨f_Web_len, fd_Web_len, G_Web_len, me_Web_len, b_Web_len⟩ := C_Web_len.ex
  obtain ⟨f_Web_arrows, fd_Web_arrows, G_Web_arrows, me_Web_arrows, b_Web_arrows⟩ := C_Web_arrows.ex
  obtain ⟨f_Web_rooms, fd_Web_rooms, G_Web_rooms, me_Web_rooms, b_Web_rooms⟩ := C_Web_rooms.ex
  obtain ⟨f_number_in, fd_number_in, G_number_in, m_number_in, k_number_in, b_number_in⟩ := C_number_in.ex
  refine F.ok sc_arrows_of (fun vs H Q E h => by obtain ⟨_, _, _, _, hv, _⟩ := h; exact hv.len) (fun cdv A outer s H vs Q E hr h => ?_)
  obtain ⟨S, ⟨w, a⟩, hd, hS, hv, k⟩ := h
  dsimp only at hd hv k
  have g0 : Gr md0 S H S H := Gr.refl (ok0 hS)
  obtain ⟨v1, v2, rfl, h1, h2⟩ := hv.two
  refine ⟨_, (pss_cons (ps_set (i := 2) sc_arrows_of.nd rfl (.inl rfl) (pe_bmK K PySem.F.plainAttrs_str PySem.F.slot_str_removeprefix PySem.F.type_str_removeprefix mt_removeprefix (pv 1) (pa_cons pe_str pa_nil)))
    (pss_cons (ps_set (i := 3) sc_arrows_of.nd rfl (.inl rfl) (pe_listRg rfl (by rfl) T.list (prg_1 (by rfl) T.range (pe_callB (call_lenOwn me_Web_len.at_ me_Web_len.fn G_Web_len b_Web_len (hr.mono (by decide)) pass0) (by rfl) T.len PySem.boot_len (pa_cons (pv 0) pa_nil)))))
    (pss_cons (ps_if (pt_cmpR op_eq (pv 2) pe_str (nomark _))
      (pss_one (ps_set (i := 4) sc_arrows_of.nd rfl (.inr rfl) (pv 3)))
      (pss_cons (ps_set (i := 5) sc_arrows_of.nd rfl (.inr rfl) (pe_dget2 (hu_of hr) (pe_disp (pps_cons pe_str pe_int (pps_cons pe_str pe_int pps_nil)) (by rfl) (by rfl) (fun z => by cases z) (by decide)) (pe_slice sl_str (pv 2) po_none (po_some pe_int)) (pe_un un_neg pe_int) ⟨rfl, rfl, rfl, rfl⟩))
      (pss_cons (ps_set (i := 6) sc_arrows_of.nd rfl (.inr rfl) (pe_call G_number_in (hr.mono (by decide)) (by rfl) m_number_in k_number_in b_number_in .nil pass0 (pa_cons (pe_ifExp (pt_cmpR op_ge (pv 5) pe_int (nomark _)) (pe_slice sl_str (pv 2) (po_some pe_int) po_none) (pv 2)) pa_nil)))
      (pss_cons (ps_if (PW.pt (pw_or (pt_cmpR op_isN (pv 6) pe_non (nomark _)) (pw_or1 (pt_cmpR op_ge (pv 6) (pe_ifExp (pt_cmpR op_ge (pv 5) pe_int (nomark _)) (pe_meth0 (pv 0) WC.cl me_Web_rooms G_Web_rooms (hr.mono (by decide)) b_Web_rooms .nil pass0) (pe_callB (call_lenOwn me_Web_len.at_ me_Web_len.fn G_Web_len b_Web_len (hr.mono (by decide)) pass0) (by rfl) T.len PySem.boot_len (pa_cons (pv 0) pa_nil))) (nomark _)))))
        (pss_one (ps_ret pe_non))
        pss_nil)
      (pss_one (ps_set (i := 4) sc_arrows_of.nd rfl (.inr rfl) (pe_ifExp (pt_cmpR op_lt (pv 5) pe_int (nomark _)) (pe_lst (pa_cons (pv 6) pa_nil)) (pe_lc (own := [("at", 7), ("pair", 8)]) (by rfl) sc_arrows_of.nd (pi_enumK K (by rfl) T.enumerate (pa_cons (pe_meth0 (pv 0) WC.cl me_Web_arrows G_Web_arrows (hr.mono (by decide)) b_Web_arrows .nil pass0) pa_nil)) (blkOk_by (own := [("at", 7), ("pair", 8)]) (N := ["web", "word", "plain", "every", "some", "side", "number", "at", "pair"]) (sc := defScope t_arrows_of) (by decide +kernel)) (fun _ _ _ _ _ => (pg_tupK K (n := 2) rfl (pgs_cons (pg_name (i := 7) sc_arrows_of.nd rfl (.inl rfl)) (pgs_cons (pg_name (i := 8) sc_arrows_of.nd rfl (.inl rfl)) pgs_nil)))) (fun _ _ _ _ _ => (pts_one (pt_cmpR op_eq (pe_ix (ix_tupK K) (pv 8) (pv 5) (fun _ _ => rfl)) (pv 6) (nomark _)))) (fun _ _ _ _ _ => (pv 7))))))))))
    (pss_one (ps_ret (pe_ifExp (pt_cmpR op_ne (pv 2) (pv 1) (nomark _)) (pe_lc (own := [("at", 7)]) (by rfl) sc_arrows_of.nd (pi_listK K (pv 3)) (blkOk_by (own := [("at", 7)]) (N := ["web", "word", "plain", "every", "some", "side", "number", "at", "pair"]) (sc := defScope t_arrows_of) (by decide +kernel)) (fun _ _ _ _ _ => (pg_name (i := 7) sc_arrows_of.nd rfl (.inl rfl))) (fun _ _ _ _ _ => (pts_one (pt_cmpR (op_notIn_seqK K) (pv 7) (pv 4) (by rfl)))) (fun _ _ _ _ _ => (pv 7))) (pv 4))))))), ?_⟩
  obtain ⟨wb, ha⟩ := hd
  have ha : a < w.2.length := ha
  have le : w.2.length ≤ 100 := wb.le
  have l4 : (dS a).length ≤ 4 := dS_len (by decide) (show a < 10 ^ 4 by omega)
  have l1 := dS_pos a
  have ex : (tl (Str.ofString "*")) = [42] := by rw [tl_ofString]; rfl
  have eb : (tl (Str.ofString "b")) = [98] := by rw [tl_ofString]; rfl
  have ee : (tl (Str.ofString "e")) = [101] := by rw [tl_ofString]; rfl
  refine q_asg (P := D (.str (dS a))) (ev_rp (by omega) (ev_var h2)) g0 fun v3 S1 H1 g1 e1 h3 => ?_
  have h1 := (WoT CW w).up e1.st h1
  have h2 := (D _).up e1.st h2
  refine q_asg (P := D (lI (List.range w.2.length))) (ev_listRg1 (ev_lenOwn (by omega) (ev_var h1)) (by omega)) g1 fun v4 S2 H2 g2 e2 h4 => ?_
  have h1 := (WoT CW w).up e2.st h1
  have h2 := (D _).up e2.st h2
  have h3 := (D _).up e2.st h3
  refine q_if (b := false) (et_val (Ev.eq (ev_eqS (ev_var h3) ev_str) (congrArg PyData.bool (decide_eq_false (dS_not (by rw [ex]; exact List.mem_singleton.mpr rfl) (.inl (by decide))))))) g2 (fun z => nomatch z) fun _ S3 H3 g3 e3 => ?_
  have h1 := (WoT CW w).up e3.st h1
  have h2 := (D _).up e3.st h2
  have h3 := (D _).up e3.st h3
  refine q_asg (P := D (.int (-1))) (ev_side (cut_not (by rw [eb]; exact List.mem_singleton.mpr rfl) (.inr (by decide))) (cut_not (by rw [ee]; exact List.mem_singleton.mpr rfl) (.inr (by decide))) (ev_slS (by omega) (ev_var h3) eo_none (eo_some ev_int)) ev_neg1) g3 fun v6 S4 H4 g4 e4 h6 => ?_
  obtain rfl := D_int h6
  have h1 := (WoT CW w).up e4.st h1
  have h2 := (D _).up e4.st h2
  have h3 := (D _).up e4.st h3
  have neg : ∀ {S : Hp} {σ : L2.St}, σ[5]? = some (some (.int (-1))) → EvT md0 S (tTest (tOp (rI0 fun i j => .bl (decide (j ≤ i))) (tVar 5) (tC (.int 0)))) σ false := fun hσ => et_val (Ev.eq (ev_opB (ev_var (Dd.int _) hσ) ev_int) rfl)
  refine q_asg (P := D (nI a)) (ev_call a (by show a < 10000; omega) (ea1 (ev_if (neg rfl) (fun z => nomatch z) fun _ => ev_var h3))) g4 fun v7 S5 H5 g5 e5 h7 => ?_
  obtain rfl := D_int h7
  have h1 := (WoT CW w).up e5.st h1
  have h2 := (D _).up e5.st h2
  have h3 := (D _).up e5.st h3
  refine q_ifF (et_or (a := false) (b := false) (et_val (ev_isN (ev_var (Dd.int _)))) fun _ => et_val (Ev.eq (ev_opB (ev_var (Dd.int _)) (ev_if (P := D (nI w.2.length)) (neg rfl) (fun z => nomatch z) fun _ => ev_lenOwn (by omega) (ev_var h1))) (by show PyData.bool (decide (((w.2.length : Nat) : Int) ≤ (a : Nat))) = _; rw [decide_eq_false (by omega)]))) g5 fun S6 H6 g6 e6 => ?_
  have h2 := (D _).up e6.st h2
  have h3 := (D _).up e6.st h3
  refine s_asg (P := D (lI [a])) (ev_if (b := true) (et_val (Ev.eq (ev_opB (ev_var (Dd.int _)) ev_int) rfl)) (fun _ => ev_lstD (ds := [nI a]) (ea1 (ev_var (Dd.int _)))) fun z => nomatch z) g6 fun v8 S7 H7 g7 e7 h8 => ?_
  have h2 := (D _).up e7.st h2
  have h3 := (D _).up e7.st h3
  refine s_ret (ev_if (b := false) (et_val (Ev.eq (ev_neS (ev_var h3) (ev_var h2)) (by rw [decide_eq_true rfl]; rfl))) (fun z => nomatch z) fun _ => ev_var h8) g7 k
end
end K49
end
section
set_option linter.all false
set_option maxRecDepth 100000
set_option maxHeartbeats 4000000
/-! own rules: == of two dicts with the same tuple keys, != of two tuples that hold such -/
namespace KR
open PySem PySem.Spec PyProof.Rows PySem.Calls L2
open SeqAt (EqP EqAt)
section
variable {prog : Program} {w : World} {K : Type} [DecidableEq K] {knd : HeapKind prog w K} {A : Around} {E : Value → Shared → Prop} {s : Shared}
theorem samePairsT {nm : String} {a b : Addr} {ka kb : List (K × Addr × Value)} {Q : Bool → Shared → Prop} (ha : (a == sysModules) = false) (hb : (b == sysModules) = false) (hu : knd.room A)
    (da : s.heap.DictOfH knd a ka) (db : s.heap.DictOfH knd b kb) (hk : ka.map (·.1) = kb.map (·.1)) (hv : ∀ (i : Nat) x y, ka[i]? = some x → kb[i]? = some y → EqP prog w A s x.2.2 y.2.2 true) (h : Q true s) :
    wpAny (model prog w) A (Builtin.Dict.samePairs nm a b) Q E s := by
  obtain ⟨oa, es, ep, hoa, _, hda, hea, hia, hna⟩ := da
  obtain ⟨ob, es', ep', hob, _, hdb, heb, hib, hnb⟩ := db
  have hla : es.size = ka.length := size_of_entries hea
  have hlb : es'.size = kb.length := size_of_entries heb
  have hll : ka.length = kb.length := by simpa using congrArg List.length hk
  have hsz : es.size = es'.size := by omega
  unfold Builtin.Dict.samePairs Builtin.Dict.showsAll
  rw [if_neg (show ¬ (a == sysModules) = true by rw [ha]; exact Bool.false_ne_true), if_neg (show ¬ (b == sysModules) = true by rw [hb]; exact Bool.false_ne_true)]
  refine wpAny_bind (wpAny_pure (wpAny_bind (wpAny_pure ?_)))
  refine wpAny_bind (wpAny_dictEntries hoa hda ?_)
  dsimp only
  refine wpAny_bind (wpAny_dictEntries hob hdb ?_)
  rw [if_neg (by rw [hsz]; simp)]
  refine wpAny_bind (wpAny_dictEpoch hoa hda ?_)
  refine wpAny_bind ?_
  rw [Std.Legacy.Range.forIn_eq_forIn_range']
  simp only [Std.Legacy.Range.size, Nat.sub_zero, Nat.add_sub_cancel, Nat.div_one]
  refine wpAny_forIn_list _
    (fun rest q s' => s' = s ∧ q = (none, ()) ∧ ∃ i, rest = List.range' i (es.size - i) ∧ i ≤ es.size)
    _ ?_ ?_ _ _ ⟨rfl, rfl, 0, by simp, Nat.zero_le _⟩
  · rintro x rest q s' ⟨rfl, rfl, i, hr, hi⟩
    have hlt : i < es.size := by
      rcases Nat.lt_or_ge i es.size with h | h
      · exact h
      · rw [Nat.sub_eq_zero_of_le h] at hr; simp at hr
    obtain ⟨rfl, hrest⟩ : x = i ∧ rest = List.range' (i + 1) (es.size - (i + 1)) := by
      have e : es.size - i = (es.size - (i + 1)) + 1 := by omega
      rw [e, List.range'_succ] at hr
      injection hr with h1 h2
      exact ⟨h1, h2⟩
    refine wpAny_bind (wpAny_dictEntries hoa hda ?_)
    have hlt' : x < ka.length := by omega
    obtain ⟨k, c, v, hkv⟩ : ∃ k c v, ka[x]? = some (k, c, v) := ⟨_, _, _, List.getElem?_eq_getElem hlt'⟩
    have hex : es[x]? = some ⟨knd.hash k, .ref c, v⟩ := by rw [entry_at hea x, hkv]; rfl
    rw [hex]
    have hic : knd.is s'.heap k c := hia _ (List.mem_of_getElem? hkv)
    have kk : (kb.map (·.1))[x]? = some k := by rw [← hk, List.getElem?_map, hkv]; rfl
    obtain ⟨⟨k2, c2, v2⟩, hkb, e2⟩ : ∃ y, kb[x]? = some y ∧ y.1 = k := by
      rw [List.getElem?_map] at kk
      cases q : kb[x]? with
      | none => rw [q] at kk; cases kk
      | some y => rw [q] at kk; cases kk; exact ⟨y, rfl, rfl⟩
    have e2 : k2 = k := e2
    subst e2
    show wpAny _ _ (holding [Value.ref c, v] _ >>= _) _ _ _
    refine wpAny_bind (wpAny_holding (wpAny_bind (wpAny_dictFind_heap hu hic hob hdb heb hib hnb (fun hno => absurd hkb (hno x _)) fun j p hj => ?_)))
    have ej : j = x := by
      have h1 : (kb.map (·.1))[j]? = some k2 := by rw [List.getElem?_map, hj]; rfl
      obtain ⟨a1, b1⟩ := List.getElem?_eq_some_iff.mp h1
      obtain ⟨a2, b2⟩ := List.getElem?_eq_some_iff.mp kk
      exact (List.getElem_inj hnb).mp (b1.trans b2.symm)
    subst ej
    refine wpAny_bind (wpAny_dictEntries hob hdb ?_)
    have hex2 : es'[j]? = some ⟨knd.hash k2, .ref c2, v2⟩ := by rw [entry_at heb j, hkb]; rfl
    rw [hex2]
    refine wpAny_holding (hv j _ _ hkv hkb _ _ ?_)
    show wpAny _ _ (if (!true) = true then _ else _) _ _ _
    rw [if_neg (by decide)]
    refine wpAny_bind (wpAny_dictEpoch hoa hda ?_)
    rw [if_neg (by simp)]
    exact wpAny_pure ⟨rfl, rfl, j + 1, hrest, hlt⟩
  · rintro q s' ⟨rfl, rfl, i, hr, hi⟩
    exact wpAny_pure h
theorem rcT_dicts {a b : Addr} {ka kb : List (K × Addr × Value)} (ha : (a == sysModules) = false) (hb : (b == sysModules) = false) (hr : knd.room A.in1)
    (da : s.heap.DictOfH knd a ka) (db : s.heap.DictOfH knd b kb) (hu : A.units < cLine) (hk : ka.map (·.1) = kb.map (·.1)) (hv : ∀ (i : Nat) x y, ka[i]? = some x → kb[i]? = some y → EqP prog w A.in1 s x.2.2 y.2.2 true) (E Q : Value → Shared → Prop) (h : Q (.bool true) s) : wpAny (model prog w) A (richCompare .Eq (.ref a) (.ref b)) Q E s := by
  refine wpAny_richCompare_same_room (op := .Eq) da.typeIs db.typeIs PySem.F.slot_dict_eq (wpAny_call_entry PySem.F.slot_dict_eq da.typeIs PySem.F.entry_dict_eq ?_ (PySem.F.args_dict_eq_2 _ _)) hu
  show wpAny _ _ (Builtin.Dict.dictSlotArgs "__eq__" ⟨[.ref a, .ref b], []⟩ >>= _) _ _ s
  refine wpAny_bind ?_
  unfold Builtin.Dict.dictSlotArgs
  refine wpAny_bind (wpAny_notOrdered_dict da.typeIs ?_)
  show wpAny _ _ (pure (Value.ref a, Value.ref b)) _ _ s
  refine wpAny_pure ?_
  refine wpAny_bind (wpAny_isInstance (T := "dict") db.typeIs PySem.F.sub_dict_dict ?_)
  simp only [Bool.not_true, Bool.false_eq_true, if_false]
  refine wpAny_bind (wpAny_pure (wpAny_bind (wpAny_pure ?_)))
  refine wpAny_bind (samePairsT ha hb hr da db hk hv ?_)
  refine wpAny_pure ⟨_, rfl, ?_, ?_⟩
  · exact fun x => nomatch x
  · exact h
end
section
variable {prog : Program} {w : World} {A : Around} {s : Shared}
open AutoSeq1 (wpAny_loadPart')
open MeetsSeq MeetsSeq2 MeetsSeq3 SeqRoads2
theorem tuple_neP (l b : Addr) (items items2 : Array Value) (n n2 : Nat) (dd dd2 : Option Addr) (sl sl2 : Array (Option Value)) (hsz : items.size = items2.size) :
    MeetsIn prog w (Builtin.«tuple.__ne__» ⟨[.ref l, .ref b], []⟩)
      (fun A R s => s.heap.get? l = some { cls := .type "tuple", dict := dd, data := .seq items n, slots := sl } ∧ s.heap.get? b = some { cls := .type "tuple", dict := dd2, data := .seq items2 n2, slots := sl2 } ∧
        (∀ j (h1 : j < items.size) (h2 : j < items2.size), EqP prog w A.in1 s items[j] items2[j] true) ∧
        R (.ok (.ret (.bool false))) s) := by
    intro A R s h
    obtain ⟨hp, g, d, tk, os⟩ := s; obtain ⟨hl, hb, he, h⟩ := h
    have f2 := AutoSeq1.sub_tuple_tuple
    have hZ : (items.toList.zip items2.toList).length = items.size := by simp [hsz]
    wp_walk using wpAny_loadPart' hl, wpAny_loadPart' hb, wpAny_forIn_list _ (fun rest b s' => b.1 = none ∧ s' = ⟨hp, g, d, tk, os⟩ ∧ ∃ i, rest = (items.toList.zip items2.toList).drop i) _
    case turn =>
      rintro ⟨y, x⟩ rest b s' ⟨hb', rfl, i, hz⟩
      have hlt : i < (items.toList.zip items2.toList).length := by
        rcases Nat.lt_or_ge i (items.toList.zip items2.toList).length with h' | h'
        · exact h'
        · rw [List.drop_of_length_le h'] at hz; cases hz
      have h1 : i < items.size := hZ ▸ hlt
      have h2 : i < items2.size := hsz ▸ h1
      rw [List.drop_eq_getElem_cons hlt] at hz
      injection hz with hyx hrest
      have hy : y = items[i] := by have := congrArg Prod.fst hyx; simpa using this
      have hx : x = items2[i] := by have := congrArg Prod.snd hyx; simpa using this
      subst hy hx
      refine wpAny_bind (he i h1 h2 _ _ ?_)
      wp_walk
      exact ⟨rfl, rfl, i + 1, hrest⟩
    case fin =>
      rintro ⟨b1, b2⟩ s' ⟨hb', rfl, i, hz⟩
      simp only at hb'
      subst hb'
      wp_walk
      simpa [Builtin.Tuple.tupleCompareSizes, bne, hsz] using h
    case h =>
      exact ⟨rfl, rfl, 0, rfl⟩
theorem rcNe_tuples {l b : Addr} {items items2 : Array Value} (hl : s.heap.IsTuple l items) (hb : s.heap.IsTuple b items2) (hsz : items.size = items2.size) (hu : A.units < cLine)
    (he : ∀ j (h1 : j < items.size) (h2 : j < items2.size), EqP prog w A.in1 s items[j] items2[j] true) (E Q : Value → Shared → Prop) (h : Q (.bool false) s) : wpAny (model prog w) A (richCompare .NotEq (.ref l) (.ref b)) Q E s := by
  obtain ⟨⟨cls, dd, data, sl⟩, ho, hc, n, hd⟩ := id hl
  obtain ⟨⟨cls2, dd2, data2, sl2⟩, ho2, hc2, n2, hd2⟩ := id hb
  simp only at hc hd hc2 hd2
  subst hc hd hc2 hd2
  have ta : s.TypeIs (.ref l) "tuple" := ⟨_, ho, rfl⟩
  have tb : s.TypeIs (.ref b) "tuple" := ⟨_, ho2, rfl⟩
  exact wpAny_richCompare_same_room (op := .NotEq) ta tb F.slot_tuple_ne (call_meetsIn F.slot_tuple_ne ta F.entry_tuple_ne (F.args_tuple_ne_2 _ _) (tuple_neP l b items items2 n n2 dd dd2 sl sl2 hsz)
    ⟨ho, ho2, he, show Value.bool false ≠ Value.notImplemented ∧ Q (.bool false) s from ⟨(fun x => nomatch x), h⟩⟩) hu
end
section
variable {X : Cx} {pins : List (Addr × Obj)} {σ : L2.St} {H : Hp} {s : Shared}
/-- two dicts that hold the same -/
def EqDT (H : Hp) (x y : V) : Prop := ∃ a b kvs, x = .ref a ∧ y = .ref b ∧ L2.Rd H a (.dT kvs) ∧ L2.Rd H b (.dT kvs) ∧ ∀ p ∈ kvs, flatB p.2 = true
theorem eqDT_run (I : Inv X pins σ H s) {A : Around} (hu : A.units + 64 < cLine) {x y : V} {v u : Value} (h : EqDT H x y) (rx : L2.RelV x v) (ry : L2.RelV y u) (E Q : Value → Shared → Prop) (q : Q (.bool true) s) : wpAny (model X.prog X.w) A (richCompare .Eq v u) Q E s := by
  obtain ⟨a, b, kvs, rfl, rfl, ha, hb, hf⟩ := h
  obtain rfl : v = Value.ref a := rx
  obtain rfl : u = Value.ref b := ry
  obtain ⟨_, la, xa, ra, da⟩ := dt_rd I.hok ha
  obtain ⟨_, lb, xb, rb, db⟩ := dt_rd I.hok hb
  have keys : ∀ {l : List (List L2.Key × V)} {m : List (List L2.Key × Addr × Value)}, KT H l m → l.map (·.1) = m.map (·.1) := fun q => by
    induction q with
    | nil => rfl
    | cons h t ih => rw [List.map_cons, List.map_cons, ih, h.1]
  have vals : ∀ {l : List (List L2.Key × V)} {m : List (List L2.Key × Addr × Value)}, KT H l m → ∀ {m' : List (List L2.Key × Addr × Value)}, KT H l m' → (∀ p ∈ l, flatB p.2 = true) → ∀ (i : Nat) x y, m[i]? = some x → m'[i]? = some y → EqP X.prog X.w A.in1 s x.2.2 y.2.2 true := fun q => by
    induction q with
    | nil => intro _ _ _ i x y h1; simp at h1
    | cons h t ih =>
      intro _ q' hf i x y h1 h2
      cases q' with
      | cons h' t' =>
        cases i with
        | zero =>
          simp at h1 h2
          subst h1; subst h2
          exact (eqAt_same h.2.2 h'.2.2 (hf _ List.mem_cons_self)).eqP
        | succ i =>
          simp at h1 h2
          exact ih t' (fun p hp => hf p (List.mem_cons_of_mem _ hp)) i x y h1 h2
  exact rcT_dicts (knd := tupleKind (mixKind X.prog X.w)) la lb (tupleKind_room_in1 (by omega)) da db (by omega) ((keys ra).symm.trans (keys rb)) (vals ra rb hf) E Q q
def rEqDT : R2 := fun x y H Q => EqDT H x y ∧ Q (.bl true) H
theorem op_eqDT (hu : X.A.units + 64 < cLine) : OpR X (compareOp .Eq) rEqDT := by
  intro pins s σ H x y v u Q I rx ry h
  exact eqDT_run I hu h.1 rx ry _ _ ⟨.bl true, H, I, rfl, h.2⟩
/-- equal data, equal dicts -/
def EqI (K : PySem.W.Frag) (H : Hp) (x y : V) : Prop := (∃ d, Dp K H x d ∧ Dp K H y d ∧ SeqAt.shaped d = true ∧ PyData.eqv d d = true) ∨ EqDT H x y
theorem eqI_run (I : Inv X pins σ H s) {A : Around} (hu : A.units + 65 < cLine) {x y : V} {v u : Value} (h : EqI X.K H x y) (rx : L2.RelV x v) (ry : L2.RelV y u) : EqP X.prog X.w A s v u true := by
  rcases h with ⟨d, h1, h2, sd, ee⟩ | h
  · obtain ⟨as, r1⟩ := Dp.reads I d x v h1 rx
    obtain ⟨bs, r2⟩ := Dp.reads I d y u h2 ry
    have q := SeqAt.eqAt_reads d d A s v u as bs r1 r2 (SeqAt.canLay_of_shaped sd) (SeqAt.canLay_of_shaped sd) (by have := SeqAt.depth_of_shaped sd; omega)
    rw [ee] at q
    exact q.eqP
  · obtain ⟨a, b, kvs, rfl, rfl, _⟩ := id h
    obtain rfl : v = Value.ref a := rx
    obtain rfl : u = Value.ref b := ry
    by_cases e : a = b
    · subst e
      exact (SeqAt.EqAt.same _).eqP
    · exact SeqAt.eqP_refs e (eqDT_run I (by omega) h rfl rfl)
def rNeTD (K : PySem.W.Frag) : R2 := fun x y H Q => ∃ a b xs ys, x = .ref a ∧ y = .ref b ∧ SqT K H a xs ∧ SqT K H b ys ∧ Paired (EqI K H) xs ys ∧ Q (.bl false) H
theorem op_neTD (hu : X.A.units + 66 < cLine) : OpR X (compareOp .NotEq) (rNeTD X.K) := by
  intro pins s σ H x y v u Q I rx ry h
  obtain ⟨a, b, xs, ys, rfl, rfl, ha, hb, hp, q⟩ := h
  obtain rfl : v = Value.ref a := rx
  obtain rfl : u = Value.ref b := ry
  obtain ⟨us, r1, p1, _⟩ := I.tuple ha
  obtain ⟨ws, r2, p2, _⟩ := I.tuple hb
  have hl := Paired.length hp
  have hsz : us.toArray.size = ws.toArray.size := by
    rw [List.size_toArray, List.size_toArray, ← r1.length, ← r2.length]
    exact hl
  refine rcNe_tuples (s := s) p1 p2 hsz (by omega) (fun j h1 h2 => ?_) _ _ ⟨.bl false, H, I, rfl, q⟩
  have : ∀ {xs ys : List V}, Paired (EqI X.K H) xs ys → ∀ {us ws : List Value}, Vals xs us → Vals ys ws → ∀ j (h1 : j < us.length) (h2 : j < ws.length), EqP X.prog X.w X.A.in1 s us[j] ws[j] true := fun hp => by
    induction hp with
    | nil =>
      intro us ws r1 r2 j h1 h2
      cases r1
      exact absurd h1 (Nat.not_lt_zero j)
    | cons h _ k =>
      intro us ws r1 r2 j h1 h2
      cases r1 with
      | cons a1 b1 =>
        cases r2 with
        | cons a2 b2 =>
          cases j with
          | zero => exact eqI_run I (by show X.A.units + 1 + 65 < cLine; omega) h a1 a2
          | succ j => exact k b1 b2 j (Nat.lt_of_succ_lt_succ h1) (Nat.lt_of_succ_lt_succ h2)
  have q := this hp r1 r2 j (by simpa using h1) (by simpa using h2)
  simpa using q
end
end KR
end
section
set_option linter.all false
set_option maxRecDepth 100000
set_option maxHeartbeats 4000000
namespace KD
open PySem PySem.Spec PyProof.Rows L2 KR
theorem u66 {k : Nat} {A : Around} (r : Room k A) : A.units + 66 < cLine := by have := r.un; omega
theorem op_neTDK {X : Cx} (K : PySem.W.Frag) (hu : X.A.units + 66 < cLine) (hK : X.K = K := by rfl) : OpR X (compareOp .NotEq) (rNeTD K) := by subst hK; exact op_neTD hu
end KD
namespace K49
open PySem PySem.Spec PyProof.Rows L2 KR KD
variable {md : Md} {S H S' H' S1 H1 S0 H0 : Hp} {K : PySem.W.Frag} {σ : L2.St} {ta tb' te tx : TE} {P : KD.Ty} {D' : Ends} {tz : TS}
/-- text + text -/
theorem ev_addS {a b : Str} (hl : a.length + b.length ≤ 1000000) (h1 : Ev md S ta σ (D (.str a))) (h2 : Ev md S tb' σ (D (.str b))) : Ev md S (tOp (fun x y H Q => ∃ i j, x = V.str i ∧ y = V.str j ∧ i.length + j.length ≤ sizeLine ∧ Q (.str (i ++ j)) H) ta tb') σ (D (.str (a ++ b))) := fun S1 H R e o k =>
  h1 S1 H _ e o fun x S2 H2 g2 hx => h2 S2 H2 _ (e.trans g2.st) g2.k fun y S3 H3 g3 hy => by
    obtain rfl := D_str hx
    obtain rfl := D_str hy
    exact ⟨a, b, rfl, rfl, by rw [sizeLine_eq]; omega, k _ S3 H3 (g2.trans g3) (Dd.str _)⟩
/-- isinstance(a text, T) -/
theorem ev_isStr {z : Str} {n : String} {b : Bool} (h : Ev md S ta σ (D (.str z))) (hb : kitB "str" n = some b := by decide +kernel) : Ev md S (tCB (rIsi K) (tCons ta (tCons (tC (.ty n)) tNil))) σ (D (.bool b)) :=
  ev_cb (ea2 h (P2 := IsV (.ty n)) (fun S1 H R e o k => k _ S1 H (Gr.refl o) rfl)) fun S1 vs e hv H R o k => by
    obtain ⟨x, y, rfl, hx, rfl⟩ := hv.two
    obtain rfl := D_str hx
    exact ⟨_, _, _, _, b, rfl, .ty n, .base (.str z), kit_ty hb, k _ _ _ (Gr.refl o) (Dd.bl _)⟩
theorem ev_isStrT {z : Str} (h : Ev md S ta σ (D (.str z))) : Ev md S (tCB (rIsiT K) (tCons ta (tCons (tTup (tCons (tC (.ty "list")) (tCons (tC (.ty "tuple")) tNil))) tNil))) σ (D (.bool false)) :=
  ev_cb (ea2 h (ev_tup (ts := [IsV (.ty "list"), IsV (.ty "tuple")]) (ea2 (fun S1 H R e o k => k _ S1 H (Gr.refl o) rfl) (fun S1 H R e o k => k _ S1 H (Gr.refl o) rfl)))) fun S1 vs e hv H R o k => by
    obtain ⟨x, y, rfl, hx, hy⟩ := hv.two
    obtain rfl := D_str hx
    obtain ⟨b, ys, rfl, b1, b2⟩ := hy
    obtain ⟨p, q, rfl, rfl, rfl⟩ := b2.two
    exact ⟨_, b, _, _, _, false, rfl, o.le _ _ b1, .cons (.ty "list") (.cons (.ty "tuple") .nil), .base (.str z), kitAny_cons (kit_ty (b := "list") (r := false) (by decide +kernel)) (fun _ => kitAny_cons (kit_ty (b := "tuple") (r := false) (by decide +kernel)) (fun _ => rfl) fun z => nomatch z) (fun z => nomatch z), k _ _ _ (Gr.refl o) (Dd.bl _)⟩
theorem ev_isNS {z : Str} (h : Ev md S ta σ (D (.str z))) : Ev md S (tOp (fun x y H Q => y = V.non ∧ Q (.bl (decide (x = .non))) H) ta (tC .non)) σ (D (.bool false)) := fun S1 H R e o k =>
  h S1 H _ e o fun v S2 H2 g2 hv => by
    obtain rfl := D_str hv
    exact ⟨rfl, k _ S2 H2 g2 (Dd.bl _)⟩
theorem ev_eqB {a b : Bool} (h1 : Ev md S ta σ (D (.bool a))) (h2 : Ev md S tb' σ (D (.bool b))) : Ev md S (tOp rEq ta tb') σ (D (.bool (decide (a = b)))) := fun S1 H R e o k =>
  h1 S1 H _ e o fun x S2 H2 g2 hx => h2 S2 H2 _ (e.trans g2.st) g2.k fun y S3 H3 g3 hy => by
    obtain rfl := D_bl hx
    obtain rfl := D_bl hy
    refine ⟨rfl, k _ S3 H3 (g2.trans g3) ?_⟩
    rw [show decide (V.bl a = V.bl b) = decide (a = b) from decide_eq_decide.mpr ⟨fun z => by injection z, fun z => by rw [z]⟩]
    exact Dd.bl _
theorem ev_neB {a b : Bool} (h1 : Ev md S ta σ (D (.bool a))) (h2 : Ev md S tb' σ (D (.bool b))) : Ev md S (tOp rNe ta tb') σ (D (.bool (!decide (a = b)))) := fun S1 H R e o k =>
  h1 S1 H _ e o fun x S2 H2 g2 hx => h2 S2 H2 _ (e.trans g2.st) g2.k fun y S3 H3 g3 hy => by
    obtain rfl := D_bl hx
    obtain rfl := D_bl hy
    refine ⟨rfl, k _ S3 H3 (g2.trans g3) ?_⟩
    rw [show decide (V.bl a = V.bl b) = decide (a = b) from decide_eq_decide.mpr ⟨fun z => by injection z, fun z => by rw [z]⟩]
    exact Dd.bl _
/-- two dicts that hold the same -/
theorem flat_dEnc (kvs : List (List Nat × Nat)) : ∀ p ∈ dEnc kvs, flatB p.2 = true := fun p hp => by
  obtain ⟨q, _, rfl⟩ := List.mem_map.mp hp
  rfl
theorem ev_eqDT {kvs : List (List Nat × Nat)} (h1 : Ev md S ta σ (DctT kvs)) (h2 : Ev md S tb' σ (DctT kvs)) : Ev md S (tOp rEqDT ta tb') σ (D (.bool true)) := fun S1 H R e o k =>
  h1 S1 H _ e o fun x S2 H2 g2 hx => h2 S2 H2 _ (e.trans g2.st) g2.k fun y S3 H3 g3 hy => by
    obtain ⟨d1, rfl, h1⟩ := hx
    obtain ⟨d2, rfl, h2⟩ := hy
    exact ⟨⟨d1, d2, _, rfl, rfl, rd_up (g3.st.trans g3.k.le) h1, rd_up g3.k.le h2, flat_dEnc kvs⟩, k _ S3 H3 (g2.trans g3) (Dd.bl _)⟩
theorem shp_tps' (ps : List (Nat × Nat)) : Shp 3 (.tuple (ps.map pD)) := shp_tm shp_pD ps
theorem shp_wD (w : W) : Shp 4 (wD w) := shp_tup (ds := [nI w.1, .tuple (w.2.map pD)]) fun d hd => by
  rcases List.mem_cons.mp hd with rfl | hd
  · exact (shp_int _).le (by decide)
  · rw [List.mem_singleton.mp hd]
    exact shp_tps' _
/-- two readers, told alike -/
theorem ev_neTD {w v : W} {j : Nat} {T : Tb} (h1 : Ev md S ta σ (RdT w v j T)) (h2 : Ev md S tb' σ (RdT w v j T)) : Ev md S (tOp (rNeTD K) ta tb') σ (D (.bool false)) := fun S1 H R e o k =>
  h1 S1 H _ e o fun x S2 H2 g2 hx => h2 S2 H2 _ (e.trans g2.st) g2.k fun y S3 H3 g3 hy => by
    have hx := (RdT w v j T).up g3.st hx
    obtain ⟨a, us, rfl, a1, a2⟩ := hx
    obtain ⟨b, vs, rfl, b1, b2⟩ := hy
    obtain ⟨x1, x2, x3, x4, rfl, p1, p2, p3, p4⟩ := a2.four
    obtain ⟨y1, y2, y3, y4, rfl, q1, q2, q3, q4⟩ := b2.four
    have same : ∀ {d : PyData} {n : Nat} {x y : V}, Shp n d → n ≤ 64 → Dd S3 x d → Dd S3 y d → EqI K H3 x y := fun sh hn hx hy => .inl ⟨_, Dd.dp g3.k.le _ hx, Dd.dp g3.k.le _ hy, sh.shaped hn, eqv_same sh⟩
    refine ⟨a, b, _, _, rfl, rfl, SqT.of (g3.k.le _ _ a1), SqT.of (g3.k.le _ _ b1), .cons (same (shp_wD w) (by decide) p1 q1) (.cons (same (shp_wD v) (by decide) p2 q2) (.cons (same (shp_int _) (by decide) p3 q3) (.cons (.inr ?_) .nil))), k _ S3 H3 (g2.trans g3) (Dd.bl _)⟩
    obtain ⟨d1, rfl, h1⟩ := p4
    obtain ⟨d2, rfl, h2⟩ := q4
    exact ⟨d1, d2, _, rfl, rfl, rd_up g3.k.le h1, rd_up g3.k.le h2, flat_dEnc _⟩
/-- targets with a star: the last two apart; the first apart -/
theorem q_star3 {i0 i1 i2 : Nat} {ys : List Str} {y z : Str} (h : Ev md S te σ (D (ssD (ys ++ [y, z])))) (hz : ys.length ≤ 10000) (g : Gr md S0 H0 S H) (k : ∀ v S' H', Gr md S0 H0 S' H' → Gr md S H S' H' → (D (ssD ys)).ok S' v → tz D' (((σ.set i0 (some v)).set i1 (some (.str y))).set i2 (some (.str z))) H') :
    tSeq (tAsg te (gStar K 3 0 (gCons (gName i0) (gCons (gName i1) (gCons (gName i2) gNil))))) tz D' σ H :=
  h.go g fun v S' H' g1 g2 hv => by
    obtain ⟨a, vs, rfl, h1, h2⟩ := D_lst.1 hv
    have := strs_of (KD.All.toD h2)
    subst this
    have hl : ((ys ++ [y, z]).map V.str).length = ys.length + 2 := by simp
    refine ⟨a, _, rfl, SqL.of (g1.k.le _ _ h1), by decide, by omega, by omega, fun p hp => ?_⟩
    have e1 : (((ys ++ [y, z]).map V.str).drop 0).take (((ys ++ [y, z]).map V.str).length + 1 - 3) = ys.map V.str := by
      rw [hl, List.drop_zero, List.map_append, List.take_left']
      rw [List.length_map]; omega
    have e2 : ((ys ++ [y, z]).map V.str).take 0 ++ [V.ref p] ++ (((ys ++ [y, z]).map V.str).drop 0).drop (((ys ++ [y, z]).map V.str).length + 1 - 3) = [.ref p, .str y, .str z] := by
      rw [hl, List.drop_zero, List.map_append, List.drop_left']
      · rfl
      · rw [List.length_map]; omega
    rw [e1, e2]
    have n := g1.k.new (o := .lst (ys.map V.str)) hp
    exact ⟨_, _, rfl, _, _, rfl, _, _, rfl, rfl, k (.ref p) _ _ (g1.trans n) (g2.trans n) (Dd.lst upd_same (dd_strs _ _))⟩
theorem q_star2 {i0 i1 : Nat} {ys : List Str} {y : Str} (h : Ev md S te σ (D (ssD (y :: ys)))) (hz : ys.length ≤ 10000) (g : Gr md S0 H0 S H) (k : ∀ v S' H', Gr md S0 H0 S' H' → Gr md S H S' H' → (D (ssD ys)).ok S' v → tz D' ((σ.set i0 (some (.str y))).set i1 (some v)) H') :
    tSeq (tAsg te (gStar K 2 1 (gCons (gName i0) (gCons (gName i1) gNil)))) tz D' σ H :=
  h.go g fun v S' H' g1 g2 hv => by
    obtain ⟨a, vs, rfl, h1, h2⟩ := D_lst.1 hv
    have := strs_of (KD.All.toD h2)
    subst this
    have hl : ((y :: ys).map V.str).length = ys.length + 1 := by simp
    refine ⟨a, _, rfl, SqL.of (g1.k.le _ _ h1), by decide, by omega, by omega, fun p hp => ?_⟩
    have e1 : (((y :: ys).map V.str).drop 1).take (((y :: ys).map V.str).length + 1 - 2) = ys.map V.str := by
      rw [hl]
      show (ys.map V.str).take _ = _
      rw [List.take_of_length_le (by rw [List.length_map]; omega)]
    have e2 : ((y :: ys).map V.str).take 1 ++ [V.ref p] ++ (((y :: ys).map V.str).drop 1).drop (((y :: ys).map V.str).length + 1 - 2) = [.str y, .ref p] := by
      rw [hl]
      show [V.str y] ++ [V.ref p] ++ (ys.map V.str).drop _ = _
      rw [List.drop_of_length_le (by rw [List.length_map]; omega)]
      rfl
    rw [e1, e2]
    have n := g1.k.new (o := .lst (ys.map V.str)) hp
    exact ⟨_, _, rfl, _, _, rfl, rfl, k (.ref p) _ _ (g1.trans n) (g2.trans n) (Dd.lst upd_same (dd_strs _ _))⟩
end K49
end
section
set_option linter.all false
set_option maxRecDepth 100000
set_option maxHeartbeats 4000000
namespace K49
open PySem PySem.Spec PyProof.Rows L2 KR KD KB
open TL (tl numL tl_num numL_inj len_tl numL_len numL_ne int_num numL_free numL_digits numL_lt tl_mk mk_tl ext_tl tl_ofString tl_append split_join tl_join joinL join_eq)
def ruleD (r : List Nat) (t : Nat) : PyData := .tuple [.list (r.map fun a => lI [a]), nI t]
def sp_rule_in (CW CR : Addr) : Sp := spP (α := W × W × List Nat × Nat) (fun a => Wb a.1 ∧ Wb a.2.1 ∧ (∀ x ∈ a.2.2.1, x < a.1.2.length) ∧ a.2.2.2 < a.2.1.2.length ∧ a.2.2.1.length ≤ 10) (fun a => [WoT CW a.1, WoT CW a.2.1, D (nI a.2.2.1.length), D (.str (lineS a.2.2.1 a.2.2.2))]) (fun a => D (ruleD a.2.2.1 a.2.2.2))
section
variable {md : Md} {S : Hp} {K : PySem.W.Frag} {σ : L2.St} {ta tb' te : TE}
theorem ev_catD {ds es : List PyData} (h1 : Ev md S ta σ (D (.list ds))) (h2 : Ev md S tb' σ (D (.list es))) (hl : ds.length + es.length ≤ 100000) : Ev md S (tOp rCat ta tb') σ (D (.list (ds ++ es))) := Ev.lstD (by
  rw [List.map_append]
  exact ev_cat h1.Dlst h2.Dlst (by rw [List.length_map, List.length_map]; exact hl))
/-- words[2:] -/
theorem ev_from2 {d e : PyData} {ds : List PyData} (h : Ev md S te σ (D (.list (d :: e :: ds)))) : Ev md S (tSl (rSlL K) te (tPart (tC (.int 2))) tNoPart) σ (D (.list ds)) := by
  have q := ev_slL (K := K) h.Dlst (eo_some (i := ((2 : Nat) : Int)) ev_int) eo_none
  have e : cutT ((d :: e :: ds).map D) (some ((2 : Nat) : Int)) none = ds.map D := by
    unfold cutT
    have hl : ((d :: e :: ds).map D).length = ds.length + 2 := by simp
    rw [HT.sIx_nat, HT.sIx_none, hl, Nat.min_eq_left (by omega)]
    show (ds.map D).take _ = _
    exact List.take_of_length_le (by rw [List.length_map]; omega)
  rw [e] at q
  exact Ev.lstD q
theorem ev_isNT {ds : List PyData} (h : Ev md S ta σ (D (.tuple ds))) : Ev md S (tOp (fun x y H Q => y = V.non ∧ Q (.bl (decide (x = .non))) H) ta (tC .non)) σ (D (.bool false)) := fun S1 H R e o k =>
  h S1 H _ e o fun v S2 H2 g2 hv => by
    obtain ⟨a, vs, rfl, _⟩ := D_tup.1 hv
    exact ⟨rfl, k _ S2 H2 g2 (Dd.bl _)⟩
theorem ssD_map {α : Type} (f : α → Str) (xs : List α) : ssD (xs.map f) = .list (xs.map fun a => PyData.str (f a)) := by
  unfold ssD
  rw [List.map_map]
  rfl
end
section
variable {P : Program} {w : World} {K : PySem.W.Frag} {mg : Str → Option Value} {base : Heap}
abbrev t_rule_in : Stmt := top 30
theorem sc_rule_in : FnScope ["web", "other", "window", "row", "words", "sign", "last", "number", "lists", "word"] ["web", "other", "window", "row"] (defScope t_rule_in) := ⟨rfl, rfl, rfl, by decide +kernel, rfl, by decide +kernel, by decide +kernel⟩
theorem ok_rule_in {f : Addr} {fd : FuncData} {CW CR : Addr} (WC : WebC K mg CW) (RC : RdrC K mg CR) (F : Fun K "rule_in" "rule_in" t_rule_in f fd) (T : Txt mg)
    (C_Web_has_arrow : Mf P w K mg base CW "has_arrow" 2 ["self", "arrow"] (sp_Web_has_arrow CW CR))
    (C_arrows_of : Df P w K mg base "arrows_of" 3 ["web", "word"] (sp_arrows_of CW CR))
    (C_number_in : Df P w K mg base "number_in" 1 ["word"] sp_number_in)
    : FnOk P w K mg base CX0 4 f fd ["web", "other", "window", "row"] (sp_rule_in CW CR) := by
  obtain ⟨f_Web_has_arrow, fd_Web_has_arrow, G_Web_has_arrow, me_Web_has_arrow, b_Web_has_arrow⟩ := C_Web_has_arrow.ex
  obtain ⟨f_arrows_of, fd_arrows_of, G_arrows_of, m_arrows_of, k_arrows_of, b_arrows_of⟩ := C_arrows_of.ex
  obtain ⟨f_number_in, fd_number_in, G_number_in, m_number_in, k_number_in, b_number_in⟩ := C_number_in.ex
  refine F.ok sc_rule_in (fun vs H Q E h => by obtain ⟨_, _, _, _, hv, _⟩ := h; exact hv.len) (fun cdv A outer s H vs Q E hr h => ?_)
  obtain ⟨S, ⟨w, v, r, t⟩, hd, hS, hv, k⟩ := h
  dsimp only at hd hv k
  have g0 : Gr md0 S H S H := Gr.refl (ok0 hS)
  obtain ⟨v1, v2, v3, v4, rfl, h1, h2, h3, h4⟩ := hv.four
  refine ⟨_, (pss_cons (ps_asg (pe_op op_cat (pe_lst (pa_cons pe_str (pa_cons pe_str pa_nil))) (pe_split (pv 3) pe_str)) (pg_star (by rfl) (pgs_star (pg_name (i := 4) sc_rule_in.nd rfl (.inl rfl)) (pgs_cons (pg_name (i := 5) sc_rule_in.nd rfl (.inl rfl)) (pgs_cons (pg_name (i := 6) sc_rule_in.nd rfl (.inl rfl)) pgs_nil)))))
    (pss_cons (ps_set (i := 4) sc_rule_in.nd rfl (.inl rfl) (pe_slice (sl_listK K) (pv 4) (po_some pe_int) po_none))
    (pss_cons (ps_set (i := 7) sc_rule_in.nd rfl (.inl rfl) (pe_call G_number_in (hr.mono (by decide)) (by rfl) m_number_in k_number_in b_number_in .nil pass0 (pa_cons (pv 6) pa_nil)))
    (pss_cons (ps_if (PW.pt (pw_or (pt_cmpR op_ne (pv 5) pe_str (nomark _)) (pw_or (pt_cmpR op_ne (pe_callB (call_lenK K) (by rfl) T.len PySem.boot_len (pa_cons (pv 4) pa_nil)) (pv 2) (nomark _)) (pw_or (pt_cmpR op_isN (pv 7) pe_non (nomark _)) (pw_or1 (pt_not (pt_val (pe_meth (pv 1) WC.cl me_Web_has_arrow G_Web_has_arrow (hr.mono (by decide)) b_Web_has_arrow .nil pass0 (pa_cons (pv 7) pa_nil)))))))))
      (pss_one (ps_ret pe_non))
      pss_nil)
    (pss_cons (ps_setLc (i := 8) (own := [("word", 9)]) (by rfl) sc_rule_in.nd rfl rfl (sw_true rfl rfl rfl (by decide +kernel)) (pi_listK K (pv 4)) (blkOk_by (own := [("word", 9)]) (N := ["web", "other", "window", "row", "words", "sign", "last", "number", "lists", "word"]) (sc := defScope t_rule_in) (by decide +kernel)) (fun _ _ _ _ _ => (pg_name (i := 9) sc_rule_in.nd rfl (.inl rfl))) (fun _ _ _ _ _ => pts_nil) (fun _ _ _ _ _ => (pe_call G_arrows_of (hr.mono (by decide)) (by rfl) m_arrows_of k_arrows_of b_arrows_of .nil pass0 (pa_cons (pv 0) (pa_cons (pv 9) pa_nil)))))
    (pss_one (ps_ret (pe_ifExp (pt_cmpR (op_inDK K (u65 hr)) pe_non (pv 8) (by rfl)) pe_non (pe_tup (pa_cons (pv 8) (pa_cons (pv 7) pa_nil))))))))))), ?_⟩
  obtain ⟨bw, bv, hx, ht, hl⟩ := hd
  have hx : ∀ x ∈ r, x < w.2.length := hx
  have ht : t < v.2.length := ht
  have hl : r.length ≤ 10 := hl
  have lw : w.2.length ≤ 100 := bw.le
  have lv : v.2.length ≤ 100 := bv.le
  have ll : (lineS r t).length ≤ 100 := line_len (fun a ha => by have := hx a ha; omega) (by omega) hl
  refine q_star3 (ys := Str.ofString "" :: Str.ofString "" :: r.map dS) (y := arrS) (z := dS t) (Ev.eq (ev_catD (ev_lstD (ds := [.str (Str.ofString ""), .str (Str.ofString "")]) (ea2 KD.ev_str KD.ev_str)) (Ev.eq (ev_split (y := spS) (by decide) (by omega) (ev_var h4) KD.ev_str) (show _ = PyData.list ((lineW r t).map PyData.str) from by rw [line_words]; rfl)) (by show 2 + ((lineW r t).map PyData.str).length ≤ 100000; simp [lineW]; omega)) ?_) (by simp; omega) g0 fun v5 S1 H1 g1 e1 h5 => ?_
  · show PyData.list (PyData.str (Str.ofString "") :: PyData.str (Str.ofString "") :: (lineW r t).map PyData.str) = PyData.list ((Str.ofString "" :: Str.ofString "" :: (r.map dS ++ [arrS, dS t])).map PyData.str)
    rfl
  have h1 := (WoT CW w).up e1.st h1
  have h2 := (WoT CW v).up e1.st h2
  have h3 := (D _).up e1.st h3
  refine q_asg (P := D (.list (r.map fun a => PyData.str (dS a)))) (Ev.eq (ev_from2 (ds := (r.map dS).map PyData.str) (ev_var h5)) (by rw [List.map_map]; rfl)) g1 fun v6 S2 H2 g2 e2 h6 => ?_
  have h1 := (WoT CW w).up e2.st h1
  have h2 := (WoT CW v).up e2.st h2
  have h3 := (D _).up e2.st h3
  refine q_asg (P := D (nI t)) (ev_call t (by show t < 10000; omega) (ea1 (ev_var (Dd.str _)))) g2 fun v7 S3 H3 g3 e3 h7 => ?_
  obtain rfl := D_int h7
  have h1 := (WoT CW w).up e3.st h1
  have h2 := (WoT CW v).up e3.st h2
  have h3 := (D _).up e3.st h3
  have h6 := (D _).up e3.st h6
  refine q_ifF (et_or (a := false) (b := false) (et_val (Ev.eq (ev_neS (ev_var (Dd.str _)) KD.ev_str) (by rw [show arrS = Str.ofString "->" from rfl, decide_eq_true rfl]; rfl))) fun _ => et_or (a := false) (b := false) (et_val (Ev.eq (ev_neN (ev_lenDL (ev_var h6)) (ev_var h3)) (by rw [List.length_map, decide_eq_true rfl]; rfl))) fun _ => et_or (a := false) (b := false) (et_val (ev_isN (ev_var (Dd.int _)))) fun _ => et_not (a := true) (et_val (Ev.eq (ev_meth (v, t) trivial (ev_var h2) rfl (ea1 (ev_var (Dd.int _))) rfl) (by show PyData.bool (decide (t < v.2.length)) = _; rw [decide_eq_true ht])))) g3 fun S4 H4 g4 e4 => ?_
  have h1 := (WoT CW w).up e4.st h1
  have h6 := (D _).up e4.st h6
  refine q_asg (P := D (.list (r.map fun a => lI [a]))) (xl_YD (xs := r) (fun a => lI [a]) (ex_listD (xs := r) (enc := fun a => PyData.str (dS a)) (ev_var h6)) (by omega) ?_) g4 fun v8 S5 H5 g5 e5 h8 => ?_
  · rintro a S9 y e9 ha hy
    exact ⟨_, eg_name, rfl, ev_call (w, a) ⟨bw, hx a ha⟩ (ea2 (ev_var ((WoT CW w).up e9 h1)) (ev_var hy))⟩
  · refine s_ret (P := D (ruleD r t)) (ev_if (b := false) (et_val (Ev.eq (ev_inD KD.ev_non (ev_var h8) shp_non.shaped (shp_lm (fun a => shp_lI [a]) r).shaped) ?_)) (fun z => nomatch z) fun _ => ev_tupD (ds := [.list (r.map fun a => lI [a]), nI t]) (ea2 (ev_var h8) (ev_var (Dd.int _)))) g5 k
    congr 1
    rw [List.any_eq_false]
    intro d hd
    obtain ⟨a, _, rfl⟩ := List.mem_map.mp hd
    simp [lI, PyData.eqv]
end
end K49
end
section
set_option linter.all false
set_option maxRecDepth 100000
set_option maxHeartbeats 4000000
namespace K49
open PySem PySem.Spec PyProof.Rows L2 KR KD KB
open TL (tl numL tl_num numL_inj len_tl numL_len numL_ne int_num numL_free numL_digits numL_lt tl_mk mk_tl ext_tl tl_ofString tl_append split_join tl_join joinL join_eq)
/-! ### the text of a table -/
def linesS (w : W) (j : Nat) (T : Tb) : List Str := (rowsN w j).map fun r => lineS r (T r)
def txtS (w : W) (j : Nat) (T : Tb) : Str := Txt.join nlS (headS (j + 1) :: linesS w j T)
theorem joinL_mem {c s : Nat} : ∀ {ps : List (List Nat)}, s ≠ c → (∀ p ∈ ps, s ∉ p) → s ∉ joinL [c] ps
  | [], _, _ => fun z => by cases z
  | [p], _, h => h p List.mem_cons_self
  | p :: q :: r, n, h => fun z => by
    have z : s ∈ p ++ ([c] ++ joinL [c] (q :: r)) := z
    rcases List.mem_append.mp z with z | z
    · exact h p List.mem_cons_self z
    · rcases List.mem_append.mp z with z | z
      · exact n (List.mem_singleton.mp z)
      · exact joinL_mem n (fun p' hp => h p' (List.mem_cons_of_mem _ hp)) z
theorem join_free {y : Str} {c s : Nat} (hy : tl y = [c]) {ps : List Str} (n : s ≠ c) (h : ∀ p ∈ ps, s ∉ tl p) : s ∉ tl (Txt.join y ps) := by
  rw [join_eq, tl_join, hy]
  refine joinL_mem n fun p hp => ?_
  obtain ⟨q, hq, rfl⟩ := List.mem_map.mp hp
  exact h q hq
theorem head_free (n : Nat) : 10 ∉ tl (headS n) := join_free tl_spS (by decide) fun p hp => by
  rcases List.mem_cons.mp hp with rfl | hp
  · rw [tl_lookS]; decide
  · rw [List.mem_singleton.mp hp]
    exact dS_free (.inl (by decide))
theorem line_free (r : List Nat) (t : Nat) : 10 ∉ tl (lineS r t) := join_free tl_spS (by decide) fun p hp => by
  rcases List.mem_append.mp hp with hp | hp
  · obtain ⟨a, _, rfl⟩ := List.mem_map.mp hp
    exact dS_free (.inl (by decide))
  · rcases List.mem_cons.mp hp with rfl | hp
    · rw [tl_arrS]; decide
    · rw [List.mem_singleton.mp hp]
      exact dS_free (.inl (by decide))
theorem txt_lines (w : W) (j : Nat) (T : Tb) : Txt.split (txtS w j T) nlS = headS (j + 1) :: linesS w j T := split_nl (by simp) fun p hp => by
  rcases List.mem_cons.mp hp with rfl | hp
  · exact head_free _
  · obtain ⟨r, _, rfl⟩ := List.mem_map.mp hp
    exact line_free _ _
/-- a table of bounded size -/
structure TxOk (w v : W) (j : Nat) (T : Tb) : Prop where
  aw : w.2.length ≤ 100
  av : v.2.length ≤ 100
  j9 : j ≤ 9
  few : (rowsN w j).length ≤ 300
  val : ∀ r ∈ rowsN w j, T r < v.2.length
theorem TxOk.line {w v : W} {j : Nat} {T : Tb} (h : TxOk w v j T) {r : List Nat} (hr : r ∈ rowsN w j) : (lineS r (T r)).length ≤ 100 := by
  obtain ⟨rl, ri⟩ := mem_rowsN.mp hr
  have := h.val r hr
  have := h.av
  have := h.aw
  have := h.j9
  exact line_len (fun a ha => by have := ri.1 a ha; omega) (by omega) (by omega)
theorem TxOk.sum {w v : W} {j : Nat} {T : Tb} (h : TxOk w v j T) : ((headS (j + 1) :: linesS w j T).map fun p => p.length + 1).sum ≤ 30401 := by
  have := h.few
  have := h.j9
  refine Nat.le_trans (sum_le_all (b := 101) fun x hx => ?_) ?_
  · obtain ⟨p, hp, rfl⟩ := List.mem_map.mp hx
    rcases List.mem_cons.mp hp with rfl | hp
    · have := head_len (n := j + 1) (by omega)
      omega
    · obtain ⟨r, hr, rfl⟩ := List.mem_map.mp hp
      have := h.line hr
      omega
  · rw [List.length_map, List.length_cons]
    unfold linesS
    rw [List.length_map]
    omega
theorem TxOk.len {w v : W} {j : Nat} {T : Tb} (h : TxOk w v j T) : (txtS w j T).length ≤ 30401 := Nat.le_trans (join_len tl_nlS _) h.sum
theorem NeedOk.tx {w v : W} {j : Nat} {T : Tb} (h : NeedOk w v j T) : TxOk w v j T := ⟨by have := h.aw; omega, h.bv.le, by have := h.j4; omega, by rw [rowsN_len h.bw.toWOk]; exact h.m, h.rd.val⟩
/-- of the rows one is this one -/
theorem filter_one {rs : List (List Nat)} {r : List Nat} (nd : rs.Nodup) (h : r ∈ rs) : rs.filter (fun s => decide (s = r)) = [r] := by
  induction rs with
  | nil => cases h
  | cons s rs ih =>
    have nd' := List.nodup_cons.mp nd
    rcases List.mem_cons.mp h with rfl | h
    · rw [List.filter_cons, if_pos (by simp), List.filter_eq_nil_iff.mpr]
      intro a ha
      have : a ≠ r := fun e => nd'.1 (e ▸ ha)
      simpa using this
    · have : s ≠ r := fun e => nd'.1 (e ▸ h)
      rw [List.filter_cons, if_neg (by simpa using this)]
      exact ih nd'.2 h
theorem zip_all : ∀ {r s : List Nat}, r.length = s.length → ((r.zip s).map fun p => decide (p.1 ∈ [p.2])).all id = decide (s = r)
  | [], [], _ => by simp
  | a :: r, b :: s, h => by
    have ih := zip_all (r := r) (s := s) (by simpa using h)
    rw [List.zip_cons_cons, List.map_cons, List.all_cons, ih]
    by_cases e : a = b
    · subst e
      simp
    · have e' : ¬ b = a := fun z => e z.symm
      simp [e, e']
section
variable {md : Md} {S : Hp} {K : PySem.W.Frag} {σ : L2.St} {ta tb' te : TE}
theorem ex_zipTL {α β : Type} {xs : List α} {ys : List β} {f : α → KD.Ty} {g : β → KD.Ty} (h : Ev md S ta σ (TupT (xs.map f))) (h' : Ev md S tb' σ (LstT (ys.map g))) : EvX md S (iZipTL K (tCons ta (tCons tb' tNil))) σ (xs.zip ys) (fun p S x => ∃ a u v, x = .ref a ∧ S a = some (.tup [u, v]) ∧ (f p.1).ok S u ∧ (g p.2).ok S v) := by
  have q := ei_zipTL (K := K) h h'
  unfold EvX
  rw [List.length_zip]
  rw [List.length_map, List.length_map] at q
  refine q.conv fun i S x hi ⟨a, u, v, t, t', e1, e2, e3, e4, e5, e6⟩ => ?_
  have h1 : i < xs.length := by omega
  have h2 : i < ys.length := by omega
  rw [List.getElem?_map, List.getElem?_eq_getElem h1] at e3
  rw [List.getElem?_map, List.getElem?_eq_getElem h2] at e5
  cases e3
  cases e5
  exact ⟨(xs[i], ys[i]), by simp [List.getElem?_zip_eq_some, List.getElem?_eq_getElem h1, List.getElem?_eq_getElem h2], a, u, v, e1, e2, e4, e6⟩
end
def sp_compiled (CW CR : Addr) : Sp := spP (α := RA) (fun a => NeedOk a.1 a.2.1 a.2.2.1 a.2.2.2) (fun a => [D (.str (txtS a.1 a.2.2.1 a.2.2.2)), WoT CW a.1, WoT CW a.2.1]) (fun a => RoT CW CR a.1 a.2.1 a.2.2.1 a.2.2.2)
section
variable {P : Program} {w : World} {K : PySem.W.Frag} {mg : Str → Option Value} {base : Heap}
abbrev t_compiled : Stmt := top 31
theorem sc_compiled : FnScope ["text", "web", "other", "first", "rows", "window", "rules", "at", "row", "rule", "table", "fits", "lists", "number", "arrow", "some"] ["text", "web", "other"] (defScope t_compiled) := ⟨rfl, rfl, rfl, by decide +kernel, rfl, by decide +kernel, by decide +kernel⟩
theorem ok_compiled {f : Addr} {fd : FuncData} {CW CR : Addr} (WC : WebC K mg CW) (RC : RdrC K mg CR) (F : Fun K "compiled" "compiled" t_compiled f fd) (T : Txt mg)
    (C_Reader_init : If P w K mg base "Reader" CR 5 ["self", "web", "other", "window", "table"] (sp_Reader_init CW CR))
    (C_Web_many : Mf P w K mg base CW "many" 2 ["self", "length"] (sp_Web_many CW CR))
    (C_Web_rows : Mf P w K mg base CW "rows" 3 ["self", "length"] (sp_Web_rows CW CR))
    (C_head_window : Df P w K mg base "head_window" 2 ["row"] sp_head_window)
    (C_rule_in : Df P w K mg base "rule_in" 4 ["web", "other", "window", "row"] (sp_rule_in CW CR))
    : FnOk P w K mg base CX0 7 f fd ["text", "web", "other"] (sp_compiled CW CR) := by
  obtain ⟨f_Reader_init, fd_Reader_init, G_Reader_init, m_Reader_init, mk_Reader_init, b_Reader_init⟩ := C_Reader_init.ex
  obtain ⟨f_Web_many, fd_Web_many, G_Web_many, me_Web_many, b_Web_many⟩ := C_Web_many.ex
  obtain ⟨f_Web_rows, fd_Web_rows, G_Web_rows, me_Web_rows, b_Web_rows⟩ := C_Web_rows.ex
  obtain ⟨f_head_window, fd_head_window, G_head_window, m_head_window, k_head_window, b_head_window⟩ := C_head_window.ex
  obtain ⟨f_rule_in, fd_rule_in, G_rule_in, m_rule_in, k_rule_in, b_rule_in⟩ := C_rule_in.ex
  refine F.ok sc_compiled (fun vs H Q E h => by obtain ⟨_, _, _, _, hv, _⟩ := h; exact hv.len) (fun cdv A outer s H vs Q E hr h => ?_)
  obtain ⟨S, ⟨w, v, j, U⟩, hd, hS, hv, k⟩ := h
  dsimp only at hd hv k
  have g0 : Gr md0 S H S H := Gr.refl (ok0 hS)
  obtain ⟨v1, v2, v3, rfl, h1, h2, h3⟩ := hv.three
  refine ⟨_, (pss_cons (ps_asg (pe_split (pv 0) pe_str) (pg_star (by rfl) (pgs_cons (pg_name (i := 3) sc_compiled.nd rfl (.inl rfl)) (pgs_star (pg_name (i := 4) sc_compiled.nd rfl (.inl rfl)) pgs_nil))))
    (pss_cons (ps_set (i := 5) sc_compiled.nd rfl (.inl rfl) (pe_call G_head_window (hr.mono (by decide)) (by rfl) m_head_window k_head_window b_head_window .nil pass0 (pa_cons (pv 3) pa_nil)))
    (pss_cons (ps_if (pt_cmpR op_gt (pe_meth (pv 1) WC.cl me_Web_many G_Web_many (hr.mono (by decide)) b_Web_many .nil pass0 (pa_cons (pv 5) pa_nil)) (pe_globI (by rfl) T.MOST_ROWS) (nomark _))
      (pss_one ps_never)
      pss_nil)
    (pss_cons (ps_set (i := 6) sc_compiled.nd rfl (.inl rfl) (pe_lst pa_nil))
    (pss_cons (ps_for PassesOwn.never rfl (pi_enumK K (by rfl) T.enumerate (pa_cons (pv 4) pa_nil)) (pg_tupK K (n := 2) rfl (pgs_cons (pg_name (i := 7) sc_compiled.nd rfl (.inl rfl)) (pgs_cons (pg_name (i := 8) sc_compiled.nd rfl (.inr rfl)) pgs_nil)))
      (pss_cons (ps_set (i := 9) sc_compiled.nd rfl (.inl rfl) (pe_call G_rule_in (hr.mono (by decide)) (by rfl) m_rule_in k_rule_in b_rule_in .nil pass0 (pa_cons (pv 1) (pa_cons (pv 2) (pa_cons (pv 5) (pa_cons (pv 8) pa_nil))))))
      (pss_cons (ps_if (pt_cmpR op_isN (pv 9) pe_non (nomark _))
        (pss_one ps_never)
        pss_nil)
      (pss_one (ps_expr (pe_bmK K PySem.F.plainAttrs_list PySem.F.slot_list_append PySem.F.type_list_append mt_append (pv 6) (pa_cons (pv 9) pa_nil)))))))
    (pss_cons (ps_set (i := 10) sc_compiled.nd rfl (.inl rfl) pe_dnewT)
    (pss_cons (ps_for PassesOwn.never rfl (pi_listK K (pe_meth (pv 1) WC.cl me_Web_rows G_Web_rows (hr.mono (by decide)) b_Web_rows .nil pass0 (pa_cons (pv 5) pa_nil))) (pg_name (i := 8) sc_compiled.nd rfl (.inr rfl))
      (pss_cons (ps_setLc (i := 11) (own := [("lists", 12), ("number", 13)]) (by rfl) sc_compiled.nd rfl rfl (sw_true rfl rfl rfl (by decide +kernel)) (pi_listK K (pv 6)) (blkOk_by (own := [("lists", 12), ("number", 13)]) (N := ["text", "web", "other", "first", "rows", "window", "rules", "at", "row", "rule", "table", "fits", "lists", "number", "arrow", "some"]) (sc := defScope t_compiled) (by decide +kernel)) (fun _ _ _ _ _ => (pg_tupK K (n := 2) rfl (pgs_cons (pg_name (i := 12) sc_compiled.nd rfl (.inl rfl)) (pgs_cons (pg_name (i := 13) sc_compiled.nd rfl (.inl rfl)) pgs_nil)))) (fun _ _ _ _ _ => (pts_one (pt_val (pe_callB (cr_allK K rfl) (by rfl) T.all (by decide +kernel) (pa_cons (pe_lc (own := [("arrow", 14), ("some", 15)]) (by rfl) sc_compiled.nd (pi_zipTLK K (by rfl) T.zip (pa_cons (pv 8) (pa_cons (pv 12) pa_nil))) (blkOk_by (own := [("arrow", 14), ("some", 15)]) (N := ["text", "web", "other", "first", "rows", "window", "rules", "at", "row", "rule", "table", "fits", "lists", "number", "arrow", "some"]) (sc := { kind := .function, names := [(".0", .local), ("lists", .local), ("number", .local), ("all", .globalImplicit), ("zip", .globalImplicit), ("row", .cell)], isGenerator := false, isCoroutine := false }) (by decide +kernel)) (fun _ _ _ _ _ => (pg_tupK K (n := 2) rfl (pgs_cons (pg_name (i := 14) sc_compiled.nd rfl (.inl rfl)) (pgs_cons (pg_name (i := 15) sc_compiled.nd rfl (.inl rfl)) pgs_nil)))) (fun _ _ _ _ _ => pts_nil) (fun _ _ _ _ _ => (pe_cmpR (op_in_seqK K) (pv 14) (pv 15) (by rfl)))) pa_nil))))) (fun _ _ _ _ _ => (pv 13)))
      (pss_cons (ps_if (pt_cmpR (op_eqDK K hr.units) (pv 11) (pe_lst pa_nil) (nomark _))
        (pss_one ps_never)
        pss_nil)
      (pss_one (ps_dput (hu_of hr) (pv 10) (pv 8) (pe_ix (ix_listK K) (pv 11) pe_int (fun _ _ => rfl)) rfl)))))
    (pss_one (ps_frz (ps_ret (pe_make mk_Reader_init G_Reader_init (hr.mono (by decide)) (by rfl) m_Reader_init b_Reader_init .nil pass0 (pa_cons (pv 1) (pa_cons (pv 2) (pa_cons (pv 5) (pa_cons (pv 10) pa_nil))))))))))))))), ?_⟩
  have hd : NeedOk w v j U := hd
  have bw : Wb w := hd.bw
  have bv : Wb v := hd.bv
  have okw : WOk w := bw.toWOk
  have j4 : j ≤ 4 := hd.j4
  have hm := hd.m
  have aw := hd.aw
  have few : (rowsN w j).length ≤ 300 := by rw [rowsN_len okw]; exact hm
  have tx : TxOk w v j U := hd.tx
  have tl30 := tx.len
  have lw : w.2.length ≤ 100 := bw.le
  have lv : v.2.length ≤ 100 := bv.le
  have lnl : (linesS w j U).length = (rowsN w j).length := List.length_map _
  refine q_star2 (ys := linesS w j U) (y := headS (j + 1)) (Ev.eq (ev_split (y := nlS) (by decide) (by omega) (ev_var h1) KD.ev_str) (by rw [txt_lines])) (by omega) g0 fun v5 S1 H1 g1 e1 h5 => ?_
  have h2 := (WoT CW w).up e1.st h2
  have h3 := (WoT CW v).up e1.st h3
  refine q_asg (P := D (nI (j + 1))) (ev_call (j + 1) ⟨by show 1 ≤ j + 1; omega, by show j + 1 ≤ 6; omega⟩ (ea1 (ev_var (Dd.str _)))) g1 fun v6 S2 H2 g2 e2 h6 => ?_
  obtain rfl := D_int h6
  have h2 := (WoT CW w).up e2.st h2
  have h3 := (WoT CW v).up e2.st h3
  have h5 := (D _).up e2.st h5
  refine q_ifF (et_val (Ev.eq (ev_opB (ev_meth (w, j + 1) ⟨bw, by show j + 1 ≤ 60; omega⟩ (ev_var h2) rfl (ea1 (ev_var (Dd.int _))) rfl) ev_int) (by show PyData.bool (decide ((600 : Int) < ((many w (j + 1) : Nat) : Int))) = _; rw [decide_eq_false (by omega)]))) g2 fun S3 H3 g3 e3 => ?_
  have h2 := (WoT CW w).up e3.st h2
  have h3 := (WoT CW v).up e3.st h3
  have h5 := (D _).up e3.st h5
  refine q_asgO (en_lst (ts := []) ea_nil) g3 fun l vs4 S4 H4 g4 e4 w4 a4 => ?_
  have h2 := (WoT CW w).up e4.st h2
  have h3 := (WoT CW v).up e4.st h3
  have h5 := (D _).up e4.st h5
  obtain rfl : vs4 = [] := by cases a4; rfl
  refine q_for (ex_enumLD (xs := linesS w j U) (enc := PyData.str) (ev_var h5)) g4 (fun i σ S' H' => ∃ (y z u : Option V) (vs : List V), σ = [some v1, some v2, some v3, some (.str (headS (j + 1))), some v5, some (.int ((j + 1 : Nat) : Int)), some (.ref l), y, z, u, none, none, none, none, none, none] ∧ Own md0 S H S' H' l (.lst vs) ∧ DdAll S' vs (((rowsN w j).take i).map fun r => ruleD r (U r))) (fun S5 H5 e5 => ⟨none, none, none, [], rfl, w4.step g4 e5, .nil⟩) ?_ ?_
  · rintro Sb i a σ1 S5 H5 x S6 H6 hi eb g6 e6 ⟨y, z, u, vs, rfl, w5, a5⟩ e7 ⟨q, xv, b, rfl, hq, hb, hxv⟩
    have w6 := w5.step g6 e7
    have a6 := DdAll.up e7.st _ a5
    obtain ⟨rfl, hlt⟩ : a = i ∧ i < (linesS w j U).length := by
      have := List.getElem?_eq_some_iff.mp hi
      exact ⟨by simpa using this.2.symm, by simpa using this.1⟩
    rw [lnl] at hlt
    obtain ⟨r, hr⟩ : ∃ r, (rowsN w j)[a]? = some r := ⟨_, List.getElem?_eq_getElem hlt⟩
    have hrm : r ∈ rowsN w j := List.mem_of_getElem? hr
    obtain ⟨rl, ri⟩ := mem_rowsN.mp hrm
    have eb2 : b = lineS r (U r) := by
      have : (linesS w j U)[a]? = some (lineS r (U r)) := by unfold linesS; rw [List.getElem?_map, hr]; rfl
      rw [this] at hb
      exact (Option.some.inj hb).symm
    subst eb2
    have h2 := (WoT CW w).up (eb.trans e6) h2
    have h3 := (WoT CW v).up (eb.trans e6) h3
    refine eg_pair hq H6 _ g6.k.le ?_
    show tSeq _ _ _ [some v1, some v2, some v3, some (.str (headS (j + 1))), some v5, some (.int ((j + 1 : Nat) : Int)), some (.ref l), some (.int (a : Nat)), some xv, u, none, none, none, none, none, none] _
    refine q_asg (P := D (ruleD r (U r))) (ev_call (w, v, r, U r) ⟨bw, bv, ri.1, hd.rd.val r hrm, by show r.length ≤ 10; omega⟩ (ea_cons (ev_var h2) (ea3 (ev_var h3) (Ev.eq (ev_var (Dd.int _)) (by show PyData.int ((j + 1 : Nat) : Int) = nI r.length; rw [rl])) (ev_var hxv)))) g6 fun v9 S7 H7 g7 e8 h9 => ?_
    have w7 := w6.step g6 e8
    refine q_ifF (et_val (ev_isNT (ev_var h9))) g7 fun S8 H8 g8 e9 => ?_
    have w8 := w7.step g7 e9
    have h9 := (D _).up e9.st h9
    have a8 := DdAll.up (e8.st.trans e9.st) _ a6
    have lvs : vs.length ≤ 300 := by rw [a5.len, List.length_map, List.length_take]; omega
    refine s_appO ha_var (ev_var h9) g8 w8 (by omega) fun y9 S9 H9' H9 g9 _ g9' e10 w9 h10 => ⟨S9, g9', e6.trans (e8.st.trans (e9.st.trans e10)), _, _, _, vs ++ [y9], rfl, w9, ?_⟩
    rw [List.take_add_one, hr, List.map_append]
    exact (DdAll.up e10 _ a8).app (.cons h10 .nil)
  · rintro σ1 S5 H5 g5 e5 ⟨y, z, u9, vs, rfl, w5, a5⟩
    rw [lnl, List.length_range, List.take_length] at a5
    have gp := w5.put g5
    have h2 := (WoT CW w).up (e5.trans w5.puts) h2
    have h3 := (WoT CW v).up (e5.trans w5.puts) h3
    have hru : (D (.list ((rowsN w j).map fun r => ruleD r (U r)))).ok (L2.upd S5 l (.lst vs)) (.ref l) := Dd.lst upd_same (DdAll.up w5.puts _ a5)
    refine q_newT gp fun d H6 g6 e6 w6 => ?_
    refine q_for (ex_listD (xs := rowsN w j) (enc := tI) (ev_meth (w, j) ⟨bw, by show j + 1 ≤ 6; omega, by show many w (j + 1) ≤ 600; omega⟩ (ev_var h2) rfl (ea1 (ev_var (Dd.int _))) rfl)) g6 (fun i σ S' H' => ∃ (z u : Option V), σ = [some v1, some v2, some v3, some (.str (headS (j + 1))), some v5, some (.int ((j + 1 : Nat) : Int)), some (.ref l), y, z, u9, some (.ref d), u, none, none, none, none] ∧ Own md0 S H S' H' d (.dT (dEnc (fil (rowsN w j) U i)))) (fun S7 H7 e7 => ⟨z, none, rfl, w6.step g6 e7⟩) ?_ ?_
    · rintro Sb i r σ1 S7 H7 x S8 H8 hi eb g8 e8 ⟨z, u, rfl, w7⟩ e9 hx
      have w8 := w7.step g8 e9
      have hr : r ∈ rowsN w j := List.mem_of_getElem? hi
      obtain ⟨rl, ri⟩ := mem_rowsN.mp hr
      have hru := (D _).up (eb.trans e8) hru
      show tSeq _ _ _ [some v1, some v2, some v3, some (.str (headS (j + 1))), some v5, some (.int ((j + 1 : Nat) : Int)), some (.ref l), y, some x, u9, some (.ref d), u, none, none, none, none] _
      refine q_asg (P := D (.list ([r].map fun s => nI (U s)))) (Ev.eq (xl_D (xs := rowsN w j) (fun s => decide (s = r)) (fun s => nI (U s)) (ex_listD (xs := rowsN w j) (enc := fun s => ruleD s (U s)) (ev_var hru)) (by omega) ?_) (by rw [filter_one (rowsN_nodup w j) hr])) g8 fun v11 S9 H9 g9 e10 h11 => ?_
      · rintro s S9 y9 e9' hs hy
        obtain ⟨p, vs2, rfl, p1, p2⟩ := (D_tup (ds := [.list (s.map fun a => lI [a]), nI (U s)])).1 hy
        obtain ⟨a1, a2, rfl, q1, q2⟩ := p2.two
        obtain ⟨sl, si⟩ := mem_rowsN.mp hs
        have hx := (D _).up e9' hx
        refine ⟨_, eg_pair p1, rfl, et_B (Ev.eq (ev_all (bs := (r.zip s).map fun p => decide (p.1 ∈ [p.2])) (Ev.eq (xl_YD (xs := r.zip s) (fun p => PyData.bool (decide (p.1 ∈ [p.2]))) (ex_zipTL (xs := r) (ys := s) (f := fun a => D (nI a)) (g := fun a => D (lI [a])) (Ev.conv (ev_var hx) fun S v h => ?_) (Ev.conv (ev_var q1) fun S v h => ?_)) (by rw [List.length_zip]; omega) ?_) (by rw [List.map_map]; rfl))) (by rw [zip_all (by omega)])), fun _ => ev_var q2⟩
        · have := D_tup.1 h
          rw [List.map_map] at this
          exact this
        · have := D_lst.1 h
          rw [List.map_map] at this
          exact this
        · rintro ⟨a, b⟩ S10 z10 e11 _ ⟨q, u1, u2, rfl, hq, hu1, hu2⟩
          exact ⟨_, eg_pair hq, rfl, ev_inN (ev_var hu1) (ev_var hu2)⟩
      · have w9 := w8.step g8 e10
        have hx := (D _).up e10.st hx
        refine q_ifF (et_val (Ev.eq (ev_eqD (ev_var h11) (ev_lstD (ds := []) ea_nil) (shp_lI [U r]).shaped shp_nil.shaped) (by rw [show PyData.eqv (.list ([r].map fun s => nI (U s))) (.list []) = ([r].map fun s => nI (U s)).isEmpty from eqv_nilR _]; rfl))) g9 fun S10 H10 g10 e11 => ?_
        have w10 := w9.step g9 e11
        have hx := (D _).up e11.st hx
        have h11 := (D _).up e11.st h11
        refine s_dputO (r := r) (a := U r) (ev_ixLN (xs := [r]) (enc := fun s => nI (U s)) (a := 0) (ev_var h11) ev_int rfl) ha_var (ev_var hx) g10 w10 (Nat.lt_of_le_of_lt (Nat.le_trans (fil_len _ _ _) few) (by decide)) fun S11 H11 g11 e12 w11 _ => ⟨S11, g11, e8.trans (e10.st.trans (e11.st.trans e12)), _, _, rfl, ?_⟩
        rw [fil_put (rowsN_nodup w j) hi] at w11
        exact w11
    · rintro σ2 S7 H7 g7 e7 ⟨z, u, rfl, w7⟩
      rw [fil_full] at w7
      refine s_frz w7 g7 trivial fun o H8 g8 e8 => ?_
      have hnew : (DctT (tb w j U)).ok (L2.upd S7 d (.frz o (.dT (dEnc (tb w j U))))) (.ref d) := ⟨d, rfl, .inr ⟨o, upd_same⟩⟩
      have h2 := (WoT CW w).up (e7.trans e8) h2
      have h3 := (WoT CW v).up (e7.trans e8) h3
      exact s_ret (ev_make (w, v, j, U) hd (ea_cons (ev_var h2) (ea3 (ev_var h3) (ev_var (Dd.int _)) (ev_var hnew)))) g8 k
end
end K49
end
section
set_option linter.all false
set_option maxRecDepth 100000
set_option maxHeartbeats 4000000
namespace K49
open PySem PySem.Spec PyProof.Rows L2 KR KD KB
open TL (tl numL tl_num numL_inj len_tl numL_len numL_ne int_num numL_free numL_digits numL_lt tl_mk mk_tl ext_tl tl_ofString tl_append split_join tl_join joinL join_eq)
theorem head_eq (n : Nat) : Str.ofString "look " ++ dS n = headS n := by
  apply ext_tl
  rw [tl_append]
  unfold headS
  rw [join_eq, tl_join, tl_spS]
  show _ = joinL [32] [tl lookS, tl (dS n)]
  show _ = tl lookS ++ ([32] ++ tl (dS n))
  rw [tl_lookS, tl_ofString, ← List.append_assoc]
  rfl
theorem empty_app (z : Str) : Str.empty ++ z = z := by
  apply ext_tl
  rw [tl_append]
  rfl
def sp_reader_text (CW CR : Addr) : Sp := spP (α := RA) (fun a => NeedOk a.1 a.2.1 a.2.2.1 a.2.2.2) (fun a => [RoT CW CR a.1 a.2.1 a.2.2.1 a.2.2.2]) (fun a => D (.str (txtS a.1 (lst a.1 a.2.2.1 a.2.2.2).1 (lst a.1 a.2.2.1 a.2.2.2).2)))
structure EqA where
  w : W
  v : W
  j1 : Nat
  T1 : Tb
  j2 : Nat
  T2 : Tb
def sp_Reader_eq (CW CR : Addr) : Sp := spP (α := EqA) (fun a => NeedOk a.w a.v a.j1 a.T1 ∧ NeedOk a.w a.v a.j2 a.T2 ∧ lst a.w a.j1 a.T1 = lst a.w a.j2 a.T2) (fun a => [RoT CW CR a.w a.v a.j1 a.T1, RoT CW CR a.w a.v a.j2 a.T2]) (fun _ => D (.bool true))
theorem NeedOk.least {w v : W} {j : Nat} {T : Tb} (h : NeedOk w v j T) : NeedOk w v (lst w j T).1 (lst w j T).2 :=
  ⟨h.bw, h.bv, h.aw, Nat.le_trans (lst_le _ _ _) h.j4, Nat.le_trans (many_mono h.bw.toWOk (by have := lst_le w j T; omega)) h.m, h.rd.least h.bw.toWOk⟩
section
variable {md : Md} {S : Hp} {K : PySem.W.Frag} {σ : L2.St} {ta tb' te : TE}
/-- f'look {n}' -/
theorem ev_look {n : Nat} (hn : n < 10000) (h : Ev md S te σ (D (nI n))) : Ev md S (fun σ H Q => tJs [tC (.str (Str.ofString "look ")), tFmt te] Str.empty σ H fun out H1 => Q (.str out) H1) σ (D (.str (headS n))) := fun S1 H R e o k => by
  have hl : (headS n).length ≤ 100 := head_len hn
  have l1 : (Str.ofString "look ").length = 5 := by rw [len_tl, tl_ofString]; rfl
  refine ⟨Str.ofString "look ", rfl, ?_, ?_⟩
  · rw [empty_app, l1, sizeLine_eq]; omega
  · refine h S1 H _ e o fun v S2 H2 g2 hv => ?_
    obtain rfl := D_int hv
    refine .inr ⟨((n : Nat) : Int), rfl, ?_, ?_⟩
    · rw [Int.natAbs_natCast]
      by_cases z : n = 0
      · subst z
        decide
      · exact Nat.lt_of_lt_of_le ((Nat.log2_lt z).mpr (Nat.lt_of_lt_of_le hn (by decide : 10000 ≤ 2 ^ 14))) (by decide)
    · refine ⟨dS n, rfl, ?_, ?_⟩
      · rw [empty_app, head_eq, sizeLine_eq]; omega
      · show R (.str (Str.empty ++ Str.ofString "look " ++ dS n)) H2
        rw [empty_app, head_eq]
        exact k _ S2 H2 g2 (Dd.str _)
theorem lineW_sum {r : List Nat} {t : Nat} (hr : ∀ a ∈ r, a < 10000) (ht : t < 10000) (hl : r.length ≤ 10) : ((lineW r t).map (·.length)).sum + (lineW r t).length * spS.length ≤ 16777216 := by
  have h1 : spS.length = 1 := by rw [len_tl, tl_spS]; rfl
  have h2 : (lineW r t).length = r.length + 2 := by simp [lineW]
  have h3 : ((lineW r t).map (·.length)).sum ≤ ((lineW r t).map (·.length)).length * 4 := sum_le_all fun x hx => by
    obtain ⟨p, hp, rfl⟩ := List.mem_map.mp hx
    rcases List.mem_append.mp hp with hp | hp
    · obtain ⟨a, ha, rfl⟩ := List.mem_map.mp hp
      exact dS_len (by decide) (hr a ha)
    · rcases List.mem_cons.mp hp with rfl | hp
      · have h1 : arrS.length = 2 := by rw [len_tl, tl_arrS]; rfl
        omega
      · rw [List.mem_singleton.mp hp]
        exact dS_len (by decide) ht
  rw [List.length_map] at h3
  rw [h1]
  omega
/-- a rule's line -/
theorem ev_line {r : List Nat} {t : Nat} {tL tr : TE} (hr : ∀ a ∈ r, a < 10000) (ht : t < 10000) (hl : r.length ≤ 10) (hL : Ev md S tL σ (D (.list (r.map fun a => PyData.str (dS a))))) (hT : Ev md S tr σ (D (nI t))) :
    Ev md S (tM1 (rJoinS K) (tC (.str (Str.ofString " "))) (tOp rCat tL (tLst (tCons (tC (.str (Str.ofString "->"))) (tCons (tCB (fun xs H Q => ∃ i, xs = [V.int i] ∧ i.natAbs.log2 < 1920 ∧ Q (.str (toString i)) H) (tCons tr tNil)) tNil))))) σ (D (.str (lineS r t))) :=
  ev_join (y := spS) (ys := lineW r t) (lineW_sum hr ht hl) KD.ev_str (Ev.eq (ev_catD hL (ev_lstD (ds := [.str (Str.ofString "->"), .str (dS t)]) (ea2 KD.ev_str (ev_strI ht hT))) (by rw [List.length_map]; show r.length + 2 ≤ 100000; omega)) (by
    show PyData.list (r.map (fun a => PyData.str (dS a)) ++ [.str arrS, .str (dS t)]) = PyData.list ((r.map dS ++ [arrS, dS t]).map PyData.str)
    rw [List.map_append, List.map_map]
    rfl))
theorem sum_map_le {α : Type} {f g : α → Nat} (xs : List α) (h : ∀ a, f a ≤ g a) : (xs.map f).sum ≤ (xs.map g).sum := by
  induction xs with
  | nil => exact Nat.le_refl _
  | cons x xs ih =>
    rw [List.map_cons, List.map_cons, List.sum_cons, List.sum_cons]
    have := h x
    omega
/-- webs that are alike, asked by != -/
theorem ev_neW {CW CR : Addr} {w : W} {E : XK} (h1 : Ev md S ta σ (WoT CW w)) (h2 : Ev md S tb' σ (WoT CW w)) : Ev md S (tOp (rNeOwn CW (sp_Web_eq CW CR) E) ta tb') σ (D (.bool false)) := fun S1 H R e o k =>
  h1 S1 H _ e o fun x S2 H2 g2 hx => h2 S2 H2 _ (e.trans g2.st) g2.k fun y S3 H3 g3 hy => by
    have hx := (WoT CW w).up g3.st hx
    obtain ⟨a, dx, us, rfl, a1, a2⟩ := id hx
    obtain ⟨b, dy, vs, rfl, b1, b2⟩ := id hy
    refine ⟨a, dx, _, b, dy, _, rfl, rfl, g3.k.le _ _ a1, g3.k.le _ _ b1, S3, w, trivial, g3.k.le, .cons hx (.cons hy .nil), fun z S4 H4 g4 hz => ?_⟩
    obtain rfl := D_bl hz
    exact ⟨true, rfl, k _ S4 H4 ((g2.trans g3).trans (g4.lift g3.k)) (Dd.bl _)⟩
/-- readers that are alike, asked by != -/
theorem ev_neR {CW CR : Addr} {a : EqA} (ok : NeedOk a.w a.v a.j1 a.T1 ∧ NeedOk a.w a.v a.j2 a.T2 ∧ lst a.w a.j1 a.T1 = lst a.w a.j2 a.T2) {E : XK} (h1 : Ev md S ta σ (RoT CW CR a.w a.v a.j1 a.T1)) (h2 : Ev md S tb' σ (RoT CW CR a.w a.v a.j2 a.T2)) : Ev md S (tOp (rNeOwn CR (sp_Reader_eq CW CR) E) ta tb') σ (D (.bool false)) := fun S1 H R e o k =>
  h1 S1 H _ e o fun x S2 H2 g2 hx => h2 S2 H2 _ (e.trans g2.st) g2.k fun y S3 H3 g3 hy => by
    have hx := (RoT CW CR a.w a.v a.j1 a.T1).up g3.st hx
    obtain ⟨p, dx, us, rfl, a1, a2⟩ := id hx
    obtain ⟨b, dy, vs, rfl, b1, b2⟩ := id hy
    refine ⟨p, dx, _, b, dy, _, rfl, rfl, g3.k.le _ _ a1, g3.k.le _ _ b1, S3, a, ok, g3.k.le, .cons hx (.cons hy .nil), fun z S4 H4 g4 hz => ?_⟩
    obtain rfl := D_bl hz
    exact ⟨true, rfl, k _ S4 H4 ((g2.trans g3).trans (g4.lift g3.k)) (Dd.bl _)⟩
/-- a list of texts that grows -/
theorem strs_own {md : Md} {S0 H0 S H : Hp} {l : Addr} {ys : List Str} (w : Own md S0 H0 S H l (.lst (ys.map V.str))) : (D (ssD ys)).ok (L2.upd S l (.lst (ys.map V.str))) (.ref l) := Dd.lst upd_same (dd_strs _ _)
end
section
variable {P : Program} {w : World} {K : PySem.W.Frag} {mg : Str → Option Value} {base : Heap}
abbrev t_reader_text : Stmt := top 32
theorem sc_reader_text : FnScope ["reader", "least", "rows", "row", "arrow", "one"] ["reader"] (defScope t_reader_text) := ⟨rfl, rfl, rfl, by decide +kernel, rfl, by decide +kernel, by decide +kernel⟩
theorem ok_reader_text {f : Addr} {fd : FuncData} {CW CR : Addr} (WC : WebC K mg CW) (RC : RdrC K mg CR) (F : Fun K "reader_text" "reader_text" t_reader_text f fd) (T : Txt mg)
    (C_Reader_least : Mf P w K mg base CR "least" 7 ["self"] (sp_Reader_least CW CR))
    (C_Reader_table : Mf P w K mg base CR "table" 1 ["self"] (sp_Reader_table CW CR))
    (C_Reader_window : Mf P w K mg base CR "window" 1 ["self"] (sp_Reader_window CW CR))
    : FnOk P w K mg base CX0 8 f fd ["reader"] (sp_reader_text CW CR) := by
  obtain ⟨f_Reader_least, fd_Reader_least, G_Reader_least, me_Reader_least, b_Reader_least⟩ := C_Reader_least.ex
  obtain ⟨f_Reader_table, fd_Reader_table, G_Reader_table, me_Reader_table, b_Reader_table⟩ := C_Reader_table.ex
  obtain ⟨f_Reader_window, fd_Reader_window, G_Reader_window, me_Reader_window, b_Reader_window⟩ := C_Reader_window.ex
  refine F.ok sc_reader_text (fun vs H Q E h => by obtain ⟨_, _, _, _, hv, _⟩ := h; exact hv.len) (fun cdv A outer s H vs Q E hr h => ?_)
  obtain ⟨S, ⟨w, v, j, U⟩, hd, hS, hv, k⟩ := h
  dsimp only at hd hv k
  have g0 : Gr md0 S H S H := Gr.refl (ok0 hS)
  obtain ⟨v1, rfl, h1⟩ := hv.one
  refine ⟨_, (pss_cons (ps_set (i := 1) sc_reader_text.nd rfl (.inl rfl) (pe_meth0 (pv 0) RC.cl me_Reader_least G_Reader_least (hr.mono (by decide)) b_Reader_least .nil pass0))
    (pss_cons (ps_set (i := 2) sc_reader_text.nd rfl (.inl rfl) (pe_lst (pa_cons (pe_joined (PJ.cons pe_str (PJ.cons (pe_fmt (pe_meth0 (pv 1) RC.cl me_Reader_window G_Reader_window (hr.mono (by decide)) b_Reader_window .nil pass0)) PJ.nil))) pa_nil)))
    (pss_cons (ps_for PassesOwn.never rfl (pi_itemsT (pe_meth0 (pv 1) RC.cl me_Reader_table G_Reader_table (hr.mono (by decide)) b_Reader_table .nil pass0)) (pg_tupK K (n := 2) rfl (pgs_cons (pg_name (i := 3) sc_reader_text.nd rfl (.inl rfl)) (pgs_cons (pg_name (i := 4) sc_reader_text.nd rfl (.inl rfl)) pgs_nil)))
      (pss_one (ps_expr (pe_bmK K PySem.F.plainAttrs_list PySem.F.slot_list_append PySem.F.type_list_append mt_append (pv 2) (pa_cons (pe_joinK K pe_str (pe_op op_cat (pe_lc (own := [("one", 5)]) (by rfl) sc_reader_text.nd (pi_tupK K (pv 3)) (blkOk_by (own := [("one", 5)]) (N := ["reader", "least", "rows", "row", "arrow", "one"]) (sc := defScope t_reader_text) (by decide +kernel)) (fun _ _ _ _ _ => (pg_name (i := 5) sc_reader_text.nd rfl (.inl rfl))) (fun _ _ _ _ _ => pts_nil) (fun _ _ _ _ _ => (pe_callTy call_str_int (by rfl) T.str (by decide +kernel) (pa_cons (pv 5) pa_nil)))) (pe_lst (pa_cons pe_str (pa_cons (pe_callTy call_str_int (by rfl) T.str (by decide +kernel) (pa_cons (pv 4) pa_nil)) pa_nil))))) pa_nil)))))
    (pss_one (ps_ret (pe_joinK K pe_str (pv 2))))))), ?_⟩
  have hd : NeedOk w v j U := hd
  have hd2 := hd.least
  revert k hd2
  generalize e0 : lst w j U = q
  obtain ⟨i, T'⟩ := q
  intro k hd2
  have hd2 : NeedOk w v i T' := hd2
  have tx := hd2.tx
  have few := tx.few
  refine q_asg (P := RoT CW CR w v i T') (Ev.conv (ev_meth (w, v, j, U) hd (ev_var h1) rfl ea_nil rfl) fun S x hx => by
    have hx : (RoT CW CR w v (lst w j U).1 (lst w j U).2).ok S x := hx
    rw [e0] at hx
    exact hx) g0 fun v2 S1 H1 g1 e1 h2 => ?_
  have i4 := hd2.j4
  refine q_asgO (ts := [D (.str (headS (i + 1)))]) (en_lst (ea1 (ev_look (n := i + 1) (by omega) (ev_meth (w, v, i, T') trivial (ev_var h2) rfl ea_nil rfl)))) g1 fun l vs S2 H2 g2 e2 w2 a2 => ?_
  obtain ⟨y2, rfl, hy2⟩ := a2.one
  obtain rfl := D_str hy2
  have h2 := (RoT CW CR w v i T').up e2.st h2
  refine q_for (ex_items (kvs := tb w i T') (ev_meth (w, v, i, T') hd2 (ev_var h2) rfl ea_nil rfl)) g2 (fun n σ S' H' => ∃ y z : Option V, σ = [some v1, some v2, some (.ref l), y, z, none] ∧ Own md0 S H S' H' l (.lst ((headS (i + 1) :: (linesS w i T').take n).map V.str))) (fun S3 H3 e3 => ⟨none, none, rfl, w2.step g2 e3⟩) ?_ ?_
  · rintro Sb n p σ1 S3 H3 x S4 H4 hi eb g4 e4 ⟨y, z, rfl, w3⟩ e5 ⟨a, q, rfl, ha, hq⟩
    have w4 := w3.step g4 e5
    unfold tb at hi
    rw [List.getElem?_map] at hi
    cases hr : (rowsN w i)[n]? with
    | none => rw [hr] at hi; cases hi
    | some r =>
      rw [hr] at hi
      have hi : (r, T' r) = p := Option.some.inj hi
      subst hi
      have hrm : r ∈ rowsN w i := List.mem_of_getElem? hr
      obtain ⟨rl, ri⟩ := mem_rowsN.mp hrm
      have hv1 := tx.val r hrm
      have hv2 := tx.av
      have hv3 := tx.aw
      refine eg_pair ha H4 _ g4.k.le ?_
      show tDrop _ _ [some v1, some v2, some (.ref l), some q, some (.int (T' r : Nat)), none] _
      have lt : (linesS w i T')[n]? = some (lineS r (T' r)) := by unfold linesS; rw [List.getElem?_map, hr]; rfl
      have ln : n < 300 := by have := (List.getElem?_eq_some_iff.mp hr).1; omega
      refine s_appO ha_var (ev_line (r := r) (t := T' r) (fun a ha => by have := ri.1 a ha; omega) (by omega) (by omega) (xl_YD (xs := r) (fun a => PyData.str (dS a)) (ex_tupD (xs := r) (enc := nI) (ev_var hq)) (by omega) ?_) (ev_var (Dd.int _))) g4 w4 ?_ fun y5 S5 H5' H5 g5 _ g5' e6 w5 h5 => ⟨S5, g5', e4.trans e6, _, _, rfl, ?_⟩
      · rintro a' S9 y9 e9 ha' hy
        exact ⟨_, eg_name, rfl, ev_strI (by have := ri.1 a' ha'; omega) (ev_var hy)⟩
      · rw [List.length_map, List.length_cons, List.length_take]
        omega
      · obtain rfl := D_str h5
        rw [List.take_add_one, lt]
        have : (headS (i + 1) :: ((linesS w i T').take n ++ (some (lineS r (T' r))).toList)).map V.str = (headS (i + 1) :: (linesS w i T').take n).map V.str ++ [V.str (lineS r (T' r))] := by simp
        rw [this]
        exact w5
  · rintro σ1 S3 H3 g3 e3 ⟨y, z, rfl, w3⟩
    have ll : (tb w i T').length = (linesS w i T').length := by unfold tb linesS; rw [List.length_map, List.length_map]
    rw [ll, List.take_length] at w3
    have hs := tx.sum
    have hc : (linesS w i T').length ≤ 300 := by unfold linesS; rw [List.length_map]; exact few
    exact s_ret (ev_join (y := nlS) (ys := headS (i + 1) :: linesS w i T') (by
      have h1 : nlS.length = 1 := by rw [len_tl, tl_nlS]; rfl
      have h2 : ((headS (i + 1) :: linesS w i T').map (·.length)).sum ≤ ((headS (i + 1) :: linesS w i T').map fun p => p.length + 1).sum := sum_map_le _ fun p => Nat.le_succ _
      rw [h1, List.length_cons]
      omega) KD.ev_str (ev_var (strs_own w3))) (w3.put g3) k
abbrev t_Reader_eq : Stmt := inClass (top 23) 1
theorem sc_Reader_eq : FnScope ["self", "other"] ["self", "other"] (defScope t_Reader_eq) := ⟨rfl, rfl, rfl, by decide +kernel, rfl, by decide +kernel, by decide +kernel⟩
theorem ok_Reader_eq {f : Addr} {fd : FuncData} {CW CR : Addr} (WC : WebC K mg CW) (RC : RdrC K mg CR) (F : Fun K "__eq__" "Reader.__eq__" t_Reader_eq f fd) (T : Txt mg)
    (C_Reader_least : Mf P w K mg base CR "least" 7 ["self"] (sp_Reader_least CW CR))
    (C_Web_eq : Ef P w K mg base CW 1 ["self", "other"] (sp_Web_eq CW CR))
    : FnOk P w K mg base CX0 8 f fd ["self", "other"] (sp_Reader_eq CW CR) := by
  obtain ⟨f_Reader_least, fd_Reader_least, G_Reader_least, me_Reader_least, b_Reader_least⟩ := C_Reader_least.ex
  obtain ⟨f_Web_eq, fd_Web_eq, G_Web_eq, ne_Web_eq, b_Web_eq⟩ := C_Web_eq.ex
  refine F.ok sc_Reader_eq (fun vs H Q E h => by obtain ⟨_, _, _, _, hv, _⟩ := h; exact hv.len) (fun cdv A outer s H vs Q E hr h => ?_)
  obtain ⟨S, ⟨w, v, j1, U1, j2, U2⟩, hd, hS, hv, k⟩ := h
  dsimp only at hd hv k
  have g0 : Gr md0 S H S H := Gr.refl (ok0 hS)
  obtain ⟨v1, v2, rfl, h1, h2⟩ := hv.two
  refine ⟨_, (pss_cons (ps_if (PW.pt (pw_or (pt_not (pt_val (pe_callB call_isi (by rfl) T.isinstance (by decide +kernel) (pa_cons (pv 1) (pa_cons (pe_globC (by rfl) RC.mg) pa_nil))))) (pw_or (pt_cmpR (op_neOwn ne_Web_eq G_Web_eq b_Web_eq (hr.mono (by decide)) pass0) (pe_fldK K (pv 0) rfl) (pe_fldK K (pv 1) rfl) (nomark _)) (pw_or1 (pt_cmpR (op_neOwn ne_Web_eq G_Web_eq b_Web_eq (hr.mono (by decide)) pass0) (pe_fldK K (pv 0) rfl) (pe_fldK K (pv 1) rfl) (nomark _))))))
      (pss_one (ps_ret pe_bl))
      pss_nil)
    (pss_one (ps_ret (pe_cmpR (op_eqDT hr.units) (pe_fldK K (pe_meth0 (pv 0) RC.cl me_Reader_least G_Reader_least (hr.mono (by decide)) b_Reader_least .nil pass0) rfl) (pe_fldK K (pe_meth0 (pv 1) RC.cl me_Reader_least G_Reader_least (hr.mono (by decide)) b_Reader_least .nil pass0) rfl) (nomark _))))), ?_⟩
  obtain ⟨d1, d2, he⟩ := hd
  have he : lst w j1 U1 = lst w j2 U2 := he
  refine q_ifF (et_or (a := false) (b := false) (et_not (a := true) (et_val (ev_isIns (ev_var h2) RC.ty RC.one))) fun _ => et_or (a := false) (b := false) (et_val (ev_neW (w := w) (ev_fld (ev_var h1) RC.cl RC.source rfl) (ev_fld (ev_var h2) RC.cl RC.source rfl))) fun _ => et_val (ev_neW (w := v) (ev_fld (ev_var h1) RC.cl RC.goal rfl) (ev_fld (ev_var h2) RC.cl RC.goal rfl))) g0 fun S1 H1 g1 e1 => ?_
  have h1 := (RoT CW CR w v j1 U1).up e1.st h1
  have h2 := (RoT CW CR w v j2 U2).up e1.st h2
  refine s_ret (ev_eqDT (kvs := tb w (lst w j1 U1).1 (lst w j1 U1).2) (Ev.conv (ev_fld (P := DctF (tb w (lst w j1 U1).1 (lst w j1 U1).2)) (ev_meth (w, v, j1, U1) d1 (ev_var h1) rfl ea_nil rfl) RC.cl RC.told rfl) fun _ _ => DctF.t) (Ev.conv (ev_fld (P := DctF (tb w (lst w j2 U2).1 (lst w j2 U2).2)) (ev_meth (w, v, j2, U2) d2 (ev_var h2) rfl ea_nil rfl) RC.cl RC.told rfl) fun _ _ h => by rw [he]; exact DctF.t h)) g1 k
end
end K49
end
section
set_option linter.all false
set_option maxRecDepth 100000
set_option maxHeartbeats 4000000
namespace K49
open PySem PySem.Spec PyProof.Rows L2 KR KD KB
open TL (tl numL tl_num numL_inj len_tl numL_len numL_ne int_num numL_free numL_digits numL_lt tl_mk mk_tl ext_tl tl_ofString tl_append split_join tl_join joinL join_eq)
def sp_z_made (CW CR : Addr) : Sp := spP (α := W) (fun w => Wb w) (fun w => [D (wD w)]) (fun w => WoT CW w)
def sp_z_tells (CW CR : Addr) : Sp := spP (α := W) (fun _ => True) (fun w => [WoT CW w]) (fun w => D (wD w))
def sp_z_made_reader (CW CR : Addr) : Sp := spP (α := RA) (fun a => NeedOk a.1 a.2.1 a.2.2.1 a.2.2.2) (fun a => [RdT a.1 a.2.1 a.2.2.1 a.2.2.2]) (fun a => RoT CW CR a.1 a.2.1 a.2.2.1 a.2.2.2)
def sp_z_tells_reader (CW CR : Addr) : Sp := spP (α := RA) (fun a => NeedOk a.1 a.2.1 a.2.2.1 a.2.2.2) (fun a => [RoT CW CR a.1 a.2.1 a.2.2.1 a.2.2.2]) (fun a => RdT a.1 a.2.1 a.2.2.1 a.2.2.2)
def sp_z_reader_text : Sp := spP (α := RA) (fun a => TxOk a.1 a.2.1 a.2.2.1 a.2.2.2) (fun a => [RdT a.1 a.2.1 a.2.2.1 a.2.2.2]) (fun a => D (.str (txtS a.1 a.2.2.1 a.2.2.2)))
def sp_z_same : Sp := spP (α := Str) (fun _ => True) (fun z => [D (.str z), D (.str z)]) (fun _ => D (.bool true))
def sp_law (K : PySem.W.Frag) : Sp := fun vs H Q _ => ∃ (a : Addr) (ns : List Int), vs = [.ref a] ∧ SqL K H a (ns.map V.int) ∧ ns.length ≤ 63 ∧ ∀ H', Same H H' → Q (.bl true) H'
section
variable {P : Program} {w : World} {K : PySem.W.Frag} {mg : Str → Option Value} {base : Heap}
abbrev t_z_made : Stmt := top 40
theorem sc_z_made : FnScope ["_law_w"] ["_law_w"] (defScope t_z_made) := ⟨rfl, rfl, rfl, by decide +kernel, rfl, by decide +kernel, by decide +kernel⟩
theorem ok_z_made {f : Addr} {fd : FuncData} {CW CR : Addr} (WC : WebC K mg CW) (RC : RdrC K mg CR) (F : Fun K "_law_made" "_law_made" t_z_made f fd) (T : Txt mg)
    (C_Web_init : If P w K mg base "Web" CW 3 ["self", "rooms", "arrows"] (sp_Web_init CW CR))
    : FnOk P w K mg base CX0 5 f fd ["_law_w"] (sp_z_made CW CR) := by
  obtain ⟨f_Web_init, fd_Web_init, G_Web_init, m_Web_init, mk_Web_init, b_Web_init⟩ := C_Web_init.ex
  refine F.ok sc_z_made (fun vs H Q E h => by obtain ⟨_, _, _, _, hv, _⟩ := h; exact hv.len) (fun cdv A outer s H vs Q E hr h => ?_)
  obtain ⟨S, w, hd, hS, hv, k⟩ := h
  dsimp only at hd hv k
  have g0 : Gr md0 S H S H := Gr.refl (ok0 hS)
  obtain ⟨v1, rfl, h1⟩ := hv.one
  refine ⟨_, (pss_one (ps_ret (pe_make mk_Web_init G_Web_init (hr.mono (by decide)) (by rfl) m_Web_init b_Web_init .nil pass0 (pa_cons (pe_ix (ix_tupK K) (pv 0) pe_int (fun _ _ => rfl)) (pa_cons (pe_callTy (call_listK K) (by rfl) T.list (by decide +kernel) (pa_cons (pe_ix (ix_tupK K) (pv 0) pe_int (fun _ _ => rfl)) pa_nil)) pa_nil))))), ?_⟩
  have hd : Wb w := hd
  exact s_ret (ev_make w hd (ea2 (ev_w0 (ev_var h1)) (Ev.conv (ev_listT (Ev.Dtup (ev_w1 (ev_var h1)))) fun _ _ => D_lst.2))) g0 k
abbrev t_z_tells : Stmt := top 41
theorem sc_z_tells : FnScope ["_law_web_here"] ["_law_web_here"] (defScope t_z_tells) := ⟨rfl, rfl, rfl, by decide +kernel, rfl, by decide +kernel, by decide +kernel⟩
theorem ok_z_tells {f : Addr} {fd : FuncData} {CW CR : Addr} (WC : WebC K mg CW) (RC : RdrC K mg CR) (F : Fun K "_law_tells" "_law_tells" t_z_tells f fd) (T : Txt mg)
    (C_Web_arrows : Mf P w K mg base CW "arrows" 1 ["self"] (sp_Web_arrows CW CR))
    (C_Web_rooms : Mf P w K mg base CW "rooms" 1 ["self"] (sp_Web_rooms CW CR))
    : FnOk P w K mg base CX0 2 f fd ["_law_web_here"] (sp_z_tells CW CR) := by
  obtain ⟨f_Web_arrows, fd_Web_arrows, G_Web_arrows, me_Web_arrows, b_Web_arrows⟩ := C_Web_arrows.ex
  obtain ⟨f_Web_rooms, fd_Web_rooms, G_Web_rooms, me_Web_rooms, b_Web_rooms⟩ := C_Web_rooms.ex
  refine F.ok sc_z_tells (fun vs H Q E h => by obtain ⟨_, _, _, _, hv, _⟩ := h; exact hv.len) (fun cdv A outer s H vs Q E hr h => ?_)
  obtain ⟨S, w, hd, hS, hv, k⟩ := h
  dsimp only at hd hv k
  have g0 : Gr md0 S H S H := Gr.refl (ok0 hS)
  obtain ⟨v1, rfl, h1⟩ := hv.one
  refine ⟨_, (pss_one (ps_ret (pe_tup (pa_cons (pe_meth0 (pv 0) WC.cl me_Web_rooms G_Web_rooms (hr.mono (by decide)) b_Web_rooms .nil pass0) (pa_cons (pe_callTy (call_tupleK K) (by rfl) T.tuple (by decide +kernel) (pa_cons (pe_meth0 (pv 0) WC.cl me_Web_arrows G_Web_arrows (hr.mono (by decide)) b_Web_arrows .nil pass0) pa_nil)) pa_nil))))), ?_⟩
  exact s_ret (ev_tupD (ds := [nI w.1, .tuple (w.2.map pD)]) (ea2 (ev_meth w trivial (ev_var h1) rfl ea_nil rfl) (Ev.conv (ev_tupleL (Ev.Dlst (ev_meth w trivial (ev_var h1) rfl ea_nil rfl))) fun _ _ => D_tup.2))) g0 k
abbrev t_z_made_reader : Stmt := top 68
theorem sc_z_made_reader : FnScope ["_law_f"] ["_law_f"] (defScope t_z_made_reader) := ⟨rfl, rfl, rfl, by decide +kernel, rfl, by decide +kernel, by decide +kernel⟩
theorem ok_z_made_reader {f : Addr} {fd : FuncData} {CW CR : Addr} (WC : WebC K mg CW) (RC : RdrC K mg CR) (F : Fun K "_law_made_reader" "_law_made_reader" t_z_made_reader f fd) (T : Txt mg)
    (C_Reader_init : If P w K mg base "Reader" CR 5 ["self", "web", "other", "window", "table"] (sp_Reader_init CW CR))
    (C_z_made : Df P w K mg base "_law_made" 5 ["_law_w"] (sp_z_made CW CR))
    : FnOk P w K mg base CX0 7 f fd ["_law_f"] (sp_z_made_reader CW CR) := by
  obtain ⟨f_Reader_init, fd_Reader_init, G_Reader_init, m_Reader_init, mk_Reader_init, b_Reader_init⟩ := C_Reader_init.ex
  obtain ⟨f_z_made, fd_z_made, G_z_made, m_z_made, k_z_made, b_z_made⟩ := C_z_made.ex
  refine F.ok sc_z_made_reader (fun vs H Q E h => by obtain ⟨_, _, _, _, hv, _⟩ := h; exact hv.len) (fun cdv A outer s H vs Q E hr h => ?_)
  obtain ⟨S, ⟨w, v, j, U⟩, hd, hS, hv, k⟩ := h
  dsimp only at hd hv k
  have g0 : Gr md0 S H S H := Gr.refl (ok0 hS)
  obtain ⟨v1, rfl, h1⟩ := hv.one
  refine ⟨_, (pss_one (ps_ret (pe_make mk_Reader_init G_Reader_init (hr.mono (by decide)) (by rfl) m_Reader_init b_Reader_init .nil pass0 (pa_cons (pe_call G_z_made (hr.mono (by decide)) (by rfl) m_z_made k_z_made b_z_made .nil pass0 (pa_cons (pe_ix (ix_tupK K) (pv 0) pe_int (fun _ _ => rfl)) pa_nil)) (pa_cons (pe_call G_z_made (hr.mono (by decide)) (by rfl) m_z_made k_z_made b_z_made .nil pass0 (pa_cons (pe_ix (ix_tupK K) (pv 0) pe_int (fun _ _ => rfl)) pa_nil)) (pa_cons (pe_ix (ix_tupK K) (pv 0) pe_int (fun _ _ => rfl)) (pa_cons (pe_frz (pe_callTy (call_dictCopyT hr.units) (by rfl) T.dict (by decide +kernel) (pa_cons (pe_ix (ix_tupK K) (pv 0) pe_int (fun _ _ => rfl)) pa_nil))) pa_nil))))))), ?_⟩
  have hd : NeedOk w v j U := hd
  refine s_ret (ev_make (w, v, j, U) hd (ea_cons (ev_call w hd.bw (ea1 (ev_ixT (P := D (wD w)) (ev_var h1) ev_int rfl rfl))) (ea3 (ev_call v hd.bv (ea1 (ev_ixT (P := D (wD v)) (ev_var h1) ev_int rfl rfl))) (ev_ixT (P := D (nI (j + 1))) (ev_var h1) ev_int rfl rfl) (Ev.conv (ev_copyF (kvs := tb w j U) ?_ (ev_ixT (P := DctT (tb w j U)) (ev_var h1) ev_int rfl rfl)) fun _ _ => DctF.t)))) g0 k
  unfold tb
  rw [List.map_map]
  exact rows_hash hd.j4 hd.aw
abbrev t_z_tells_reader : Stmt := top 69
theorem sc_z_tells_reader : FnScope ["_law_reader_here"] ["_law_reader_here"] (defScope t_z_tells_reader) := ⟨rfl, rfl, rfl, by decide +kernel, rfl, by decide +kernel, by decide +kernel⟩
theorem ok_z_tells_reader {f : Addr} {fd : FuncData} {CW CR : Addr} (WC : WebC K mg CW) (RC : RdrC K mg CR) (F : Fun K "_law_tells_reader" "_law_tells_reader" t_z_tells_reader f fd) (T : Txt mg)
    (C_Reader_other : Mf P w K mg base CR "other" 1 ["self"] (sp_Reader_other CW CR))
    (C_Reader_table : Mf P w K mg base CR "table" 1 ["self"] (sp_Reader_table CW CR))
    (C_Reader_web : Mf P w K mg base CR "web" 1 ["self"] (sp_Reader_web CW CR))
    (C_Reader_window : Mf P w K mg base CR "window" 1 ["self"] (sp_Reader_window CW CR))
    (C_z_tells : Df P w K mg base "_law_tells" 2 ["_law_web_here"] (sp_z_tells CW CR))
    : FnOk P w K mg base CX0 3 f fd ["_law_reader_here"] (sp_z_tells_reader CW CR) := by
  obtain ⟨f_Reader_other, fd_Reader_other, G_Reader_other, me_Reader_other, b_Reader_other⟩ := C_Reader_other.ex
  obtain ⟨f_Reader_table, fd_Reader_table, G_Reader_table, me_Reader_table, b_Reader_table⟩ := C_Reader_table.ex
  obtain ⟨f_Reader_web, fd_Reader_web, G_Reader_web, me_Reader_web, b_Reader_web⟩ := C_Reader_web.ex
  obtain ⟨f_Reader_window, fd_Reader_window, G_Reader_window, me_Reader_window, b_Reader_window⟩ := C_Reader_window.ex
  obtain ⟨f_z_tells, fd_z_tells, G_z_tells, m_z_tells, k_z_tells, b_z_tells⟩ := C_z_tells.ex
  refine F.ok sc_z_tells_reader (fun vs H Q E h => by obtain ⟨_, _, _, _, hv, _⟩ := h; exact hv.len) (fun cdv A outer s H vs Q E hr h => ?_)
  obtain ⟨S, ⟨w, v, j, U⟩, hd, hS, hv, k⟩ := h
  dsimp only at hd hv k
  have g0 : Gr md0 S H S H := Gr.refl (ok0 hS)
  obtain ⟨v1, rfl, h1⟩ := hv.one
  refine ⟨_, (pss_one (ps_ret (pe_tup (pa_cons (pe_call G_z_tells (hr.mono (by decide)) (by rfl) m_z_tells k_z_tells b_z_tells .nil pass0 (pa_cons (pe_meth0 (pv 0) RC.cl me_Reader_web G_Reader_web (hr.mono (by decide)) b_Reader_web .nil pass0) pa_nil)) (pa_cons (pe_call G_z_tells (hr.mono (by decide)) (by rfl) m_z_tells k_z_tells b_z_tells .nil pass0 (pa_cons (pe_meth0 (pv 0) RC.cl me_Reader_other G_Reader_other (hr.mono (by decide)) b_Reader_other .nil pass0) pa_nil)) (pa_cons (pe_meth0 (pv 0) RC.cl me_Reader_window G_Reader_window (hr.mono (by decide)) b_Reader_window .nil pass0) (pa_cons (pe_meth0 (pv 0) RC.cl me_Reader_table G_Reader_table (hr.mono (by decide)) b_Reader_table .nil pass0) pa_nil))))))), ?_⟩
  have hd : NeedOk w v j U := hd
  exact s_ret (ev_tup (ts := [D (wD w), D (wD v), D (nI (j + 1)), DctT (tb w j U)]) (ea_cons (ev_call w trivial (ea1 (ev_meth (w, v, j, U) trivial (ev_var h1) rfl ea_nil rfl))) (ea3 (ev_call v trivial (ea1 (ev_meth (w, v, j, U) trivial (ev_var h1) rfl ea_nil rfl))) (ev_meth (w, v, j, U) trivial (ev_var h1) rfl ea_nil rfl) (Ev.conv (ev_meth (w, v, j, U) hd (ev_var h1) rfl ea_nil rfl) fun _ _ => DctF.t)))) g0 k
abbrev t_z_same : Stmt := top 37
theorem sc_z_same : FnScope ["_law_found", "_law_due", "_law_a", "_law_b"] ["_law_found", "_law_due"] (defScope t_z_same) := ⟨rfl, rfl, rfl, by decide +kernel, rfl, by decide +kernel, by decide +kernel⟩
theorem ok_z_same {f : Addr} {fd : FuncData} (F : Fun K "_law_same" "_law_same" t_z_same f fd) (T : Txt mg)
    : FnOk P w K mg base CX0 1 f fd ["_law_found", "_law_due"] sp_z_same := by
  refine F.ok sc_z_same (fun vs H Q E h => by obtain ⟨_, _, _, _, hv, _⟩ := h; exact hv.len) (fun cdv A outer s H vs Q E hr h => ?_)
  obtain ⟨S, z, hd, hS, hv, k⟩ := h
  dsimp only at hd hv k
  have g0 : Gr md0 S H S H := Gr.refl (ok0 hS)
  obtain ⟨v1, v2, rfl, h1, h2⟩ := hv.two
  refine ⟨_, (pss_cons (ps_if (pt_val (pe_callB call_isiT (by rfl) T.isinstance (by decide +kernel) (pa_cons (pv 1) (pa_cons (pe_tup (pa_cons (pe_bty "list" (by rfl) T.list) (pa_cons (pe_bty "tuple" (by rfl) T.tuple) pa_nil))) pa_nil)))) (pss_cons ps_never (pss_one ps_never)) pss_nil)
    (pss_cons (ps_if (PW.pt (pw_or (pt_cmpR op_isN (pv 1) pe_non (nomark _)) (pw_or1 (pt_cmpR op_isN (pv 0) pe_non (nomark _)))))
      (pss_one (ps_ret (pe_and (pe_cmpR op_isN (pv 0) pe_non (nomark _)) (pe_one (pe_cmpR op_isN (pv 1) pe_non (nomark _))))))
      pss_nil)
    (pss_cons (ps_if (PW.pt (pw_or (pt_cmpR op_ne (pe_callB call_isi (by rfl) T.isinstance (by decide +kernel) (pa_cons (pv 0) (pa_cons (pe_bty "bool" (by rfl) T.bool) pa_nil))) (pe_callB call_isi (by rfl) T.isinstance (by decide +kernel) (pa_cons (pv 1) (pa_cons (pe_bty "bool" (by rfl) T.bool) pa_nil))) (nomark _)) (pw_or1 (pt_cmpR op_ne (pe_callB call_isi (by rfl) T.isinstance (by decide +kernel) (pa_cons (pv 0) (pa_cons (pe_bty "int" (by rfl) T.int) pa_nil))) (pe_callB call_isi (by rfl) T.isinstance (by decide +kernel) (pa_cons (pv 1) (pa_cons (pe_bty "int" (by rfl) T.int) pa_nil))) (nomark _)))))
      (pss_one (ps_ret pe_bl))
      pss_nil)
    (pss_one (ps_ret (pe_and (pe_cmpR op_eq (pe_callB call_isi (by rfl) T.isinstance (by decide +kernel) (pa_cons (pv 0) (pa_cons (pe_bty "str" (by rfl) T.str) pa_nil))) (pe_callB call_isi (by rfl) T.isinstance (by decide +kernel) (pa_cons (pv 1) (pa_cons (pe_bty "str" (by rfl) T.str) pa_nil))) (nomark _)) (pe_one (pe_cmpR op_eq (pv 0) (pv 1) (nomark _))))))))), ?_⟩
  refine q_if (b := false) (et_val (ev_isStrT (ev_var h2))) g0 (fun z => nomatch z) fun _ S1 H1 g1 e1 => ?_
  have h1 := (D _).up e1.st h1
  have h2 := (D _).up e1.st h2
  refine q_ifF (et_or (a := false) (b := false) (et_val (ev_isNS (ev_var h2))) fun _ => et_val (ev_isNS (ev_var h1))) g1 fun S2 H2 g2 e2 => ?_
  have h1 := (D _).up e2.st h1
  have h2 := (D _).up e2.st h2
  refine q_ifF (et_or (a := false) (b := false) (et_val (Ev.eq (ev_neB (ev_isStr (b := false) (ev_var h1)) (ev_isStr (b := false) (ev_var h2))) rfl)) fun _ => et_val (Ev.eq (ev_neB (ev_isStr (b := false) (ev_var h1)) (ev_isStr (b := false) (ev_var h2))) rfl)) g2 fun S3 H3 g3 e3 => ?_
  have h1 := (D _).up e3.st h1
  have h2 := (D _).up e3.st h2
  exact s_ret (Ev.eq (ev_andV (ev_eqB (ev_isStr (b := true) (ev_var h1)) (ev_isStr (b := true) (ev_var h2))) fun _ => ev_eqS (ev_var h1) (ev_var h2)) (by rw [decide_eq_true rfl, decide_eq_true rfl]; rfl)) g3 k
abbrev t_z_reader_text : Stmt := top 71
theorem sc_z_reader_text : FnScope ["_law_f", "_law_rows_here", "_law_row", "_law_one"] ["_law_f"] (defScope t_z_reader_text) := ⟨rfl, rfl, rfl, by decide +kernel, rfl, by decide +kernel, by decide +kernel⟩
theorem ok_z_reader_text {f : Addr} {fd : FuncData} (F : Fun K "_law_reader_text" "_law_reader_text" t_z_reader_text f fd) (T : Txt mg)
    : FnOk P w K mg base CX0 1 f fd ["_law_f"] sp_z_reader_text := by
  refine F.ok sc_z_reader_text (fun vs H Q E h => by obtain ⟨_, _, _, _, hv, _⟩ := h; exact hv.len) (fun cdv A outer s H vs Q E hr h => ?_)
  obtain ⟨S, ⟨w, v, j, U⟩, hd, hS, hv, k⟩ := h
  dsimp only at hd hv k
  have g0 : Gr md0 S H S H := Gr.refl (ok0 hS)
  obtain ⟨v1, rfl, h1⟩ := hv.one
  refine ⟨_, (pss_cons (ps_set (i := 1) sc_z_reader_text.nd rfl (.inl rfl) (pe_lst (pa_cons (pe_op op_add_str pe_str (pe_callTy call_str_int (by rfl) T.str (by decide +kernel) (pa_cons (pe_ix (ix_tupK K) (pv 0) pe_int (fun _ _ => rfl)) pa_nil))) pa_nil)))
    (pss_cons (ps_for PassesOwn.never rfl (pi_listK K (pe_callB (cr_sortedDT rfl hr.units) (by rfl) T.sorted (by decide +kernel) (pa_cons (pe_ix (ix_tupK K) (pv 0) pe_int (fun _ _ => rfl)) pa_nil))) (pg_name (i := 2) sc_z_reader_text.nd rfl (.inl rfl))
      (pss_one (ps_expr (pe_bmK K PySem.F.plainAttrs_list PySem.F.slot_list_append PySem.F.type_list_append mt_append (pv 1) (pa_cons (pe_joinK K pe_str (pe_op op_cat (pe_lc (own := [("_law_one", 3)]) (by rfl) sc_z_reader_text.nd (pi_tupK K (pv 2)) (blkOk_by (own := [("_law_one", 3)]) (N := ["_law_f", "_law_rows_here", "_law_row", "_law_one"]) (sc := defScope t_z_reader_text) (by decide +kernel)) (fun _ _ _ _ _ => (pg_name (i := 3) sc_z_reader_text.nd rfl (.inl rfl))) (fun _ _ _ _ _ => pts_nil) (fun _ _ _ _ _ => (pe_callTy call_str_int (by rfl) T.str (by decide +kernel) (pa_cons (pv 3) pa_nil)))) (pe_lst (pa_cons pe_str (pa_cons (pe_callTy call_str_int (by rfl) T.str (by decide +kernel) (pa_cons (pe_dget (hu_of hr) (pe_ix (ix_tupK K) (pv 0) pe_int (fun _ _ => rfl)) (pv 2) (fun _ _ => rfl)) pa_nil)) pa_nil))))) pa_nil)))))
    (pss_one (ps_ret (pe_joinK K pe_str (pv 1)))))), ?_⟩
  have tx : TxOk w v j U := hd
  have few := tx.few
  have i9 := tx.j9
  refine q_asgO (ts := [D (.str (headS (j + 1)))]) (en_lst (ea1 (Ev.eq (ev_addS (a := Str.ofString "look ") (b := dS (j + 1)) ?_ KD.ev_str (ev_strI (by omega) (ev_ixT (P := D (nI (j + 1))) (ev_var h1) ev_int rfl rfl))) (by rw [head_eq])))) g0 fun l vs S2 H2 g2 e2 w2 a2 => ?_
  · have l1 : (Str.ofString "look ").length = 5 := by rw [len_tl, tl_ofString]; rfl
    have l2 : (dS (j + 1)).length ≤ 4 := dS_len (by decide) (by omega)
    omega
  obtain ⟨y2, rfl, hy2⟩ := a2.one
  obtain rfl := D_str hy2
  have h1 := (RdT w v j U).up e2.st h1
  refine q_for (ex_listD (xs := rowsN w j) (enc := tI) (ev_sortR (ev_ixT (P := DctT (tb w j U)) (ev_var h1) ev_int rfl rfl))) g2 (fun n σ S' H' => ∃ y : Option V, σ = [some v1, some (.ref l), y, none] ∧ Own md0 S H S' H' l (.lst ((headS (j + 1) :: (linesS w j U).take n).map V.str))) (fun S3 H3 e3 => ⟨none, rfl, w2.step g2 e3⟩) ?_ ?_
  · rintro Sb n r σ1 S3 H3 x S4 H4 hr eb g4 e4 ⟨y, rfl, w3⟩ e5 hx
    have w4 := w3.step g4 e5
    have hrm : r ∈ rowsN w j := List.mem_of_getElem? hr
    obtain ⟨rl, ri⟩ := mem_rowsN.mp hrm
    have hv1 := tx.val r hrm
    have hv2 := tx.av
    have hv3 := tx.aw
    have h1 := (RdT w v j U).up (eb.trans e4) h1
    show tDrop _ _ [some v1, some (.ref l), some x, none] _
    have lt : (linesS w j U)[n]? = some (lineS r (U r)) := by unfold linesS; rw [List.getElem?_map, hr]; rfl
    have ln : n < 300 := by have := (List.getElem?_eq_some_iff.mp hr).1; omega
    refine s_appO ha_var (ev_line (r := r) (t := U r) (fun a ha => by have := ri.1 a ha; omega) (by omega) (by omega) (xl_YD (xs := r) (fun a => PyData.str (dS a)) (ex_tupD (xs := r) (enc := nI) (ev_var hx)) (by omega) ?_) (ev_dget (ev_ixT (P := DctT (tb w j U)) (ev_var h1) ev_int rfl rfl) (ev_var hx) (lk_tb hrm))) g4 w4 ?_ fun y5 S5 H5' H5 g5 _ g5' e6 w5 h5 => ⟨S5, g5', e4.trans e6, _, rfl, ?_⟩
    · rintro a' S9 y9 e9 ha' hy
      exact ⟨_, eg_name, rfl, ev_strI (by have := ri.1 a' ha'; omega) (ev_var hy)⟩
    · rw [List.length_map, List.length_cons, List.length_take]
      omega
    · obtain rfl := D_str h5
      rw [List.take_add_one, lt]
      have : (headS (j + 1) :: ((linesS w j U).take n ++ (some (lineS r (U r))).toList)).map V.str = (headS (j + 1) :: (linesS w j U).take n).map V.str ++ [V.str (lineS r (U r))] := by simp
      rw [this]
      exact w5
  · rintro σ1 S3 H3 g3 e3 ⟨y, rfl, w3⟩
    have ll : (rowsN w j).length = (linesS w j U).length := by unfold linesS; rw [List.length_map]
    rw [ll, List.take_length] at w3
    have hs := tx.sum
    have hc : (linesS w j U).length ≤ 300 := by unfold linesS; rw [List.length_map]; exact few
    exact s_ret (ev_join (y := nlS) (ys := headS (j + 1) :: linesS w j U) (by
      have h1 : nlS.length = 1 := by rw [len_tl, tl_nlS]; rfl
      have h2 : ((headS (j + 1) :: linesS w j U).map (·.length)).sum ≤ ((headS (j + 1) :: linesS w j U).map fun p => p.length + 1).sum := sum_map_le _ fun p => Nat.le_succ _
      rw [h1, List.length_cons]
      omega) KD.ev_str (ev_var (strs_own w3))) (w3.put g3) k
end
end K49
end
section
set_option linter.all false
set_option maxRecDepth 100000
set_option maxHeartbeats 4000000
namespace K49
open PySem PySem.Spec PyProof.Rows L2 KR KD KB
/-- what the law draws, in least form -/
def LsT : KD.Ty := ⟨fun S x => ∃ w v j T', Drawn w v j T' ∧ lst w j T' = (j, T') ∧ (RdT w v j T').ok S x, fun e ⟨w, v, j, T', a, b, h⟩ => ⟨w, v, j, T', a, b, (RdT _ _ _ _).up e h⟩⟩
theorem Drawn.least {w v : W} {j : Nat} {T : Tb} (h : Drawn w v j T) : Drawn w v (lst w j T).1 (lst w j T).2 :=
  ⟨h.okw, h.rw, h.aw, h.okv, h.rv, h.av, h.rd.least h.okw, Nat.le_trans (lst_le _ _ _) h.j3, Nat.le_trans (many_mono h.okw (by have := lst_le w j T; omega)) h.m⟩
theorem Drawn.bw {w v : W} {j : Nat} {T : Tb} (h : Drawn w v j T) : Wb w := ⟨h.okw, by have := h.rw; omega, by have := h.aw; omega⟩
theorem Drawn.bv {w v : W} {j : Nat} {T : Tb} (h : Drawn w v j T) : Wb v := ⟨h.okv, by have := h.rv; omega, by have := h.av; omega⟩
theorem Drawn.need {w v : W} {j : Nat} {T : Tb} (h : Drawn w v j T) : NeedOk w v j T := ⟨h.bw, h.bv, h.aw, by have := h.j3; omega, by have := h.m; omega, h.rd⟩
section
variable {md : Md} {S S0 H0 H : Hp} {K : PySem.W.Frag} {σ : L2.St} {ta tb' te : TE} {t u : TT} {D' : Ends} {tz tu tw : TS}
theorem eu_and (h1 : EvT md S t σ true) (h2 : EvU md S u σ) : EvU md S (tAnd t u) σ := fun S1 H R e o k => h1 S1 H _ e o fun S2 H2 g => h2 S2 H2 R (e.trans g.st) g.k fun b S3 H3 g3 => k b S3 H3 (g.trans g3)
end
section
variable {P : Program} {w : World} {K : PySem.W.Frag} {mg : Str → Option Value} {base : Heap}
abbrev t_law : Stmt := top 72
theorem sc_law : FnScope ["_law_script", "_law_bag_here", "_law_turn", "_law_f", "_law_reader_here", "_law_text", "_law_again_z"] ["_law_script"] (defScope t_law) := ⟨rfl, rfl, rfl, by decide +kernel, rfl, by decide +kernel, by decide +kernel⟩
theorem ok_law {f : Addr} {fd : FuncData} {CW CR : Addr} (WC : WebC K mg CW) (RC : RdrC K mg CR) (F : Fun K "law" "law" t_law f fd) (T : Txt mg)
    (C_Reader_eq : Ef P w K mg base CR 8 ["self", "other"] (sp_Reader_eq CW CR))
    (C_Reader_other : Mf P w K mg base CR "other" 1 ["self"] (sp_Reader_other CW CR))
    (C_Reader_web : Mf P w K mg base CR "web" 1 ["self"] (sp_Reader_web CW CR))
    (C_z_bag : Df P w K mg base "_law_bag" 1 ["_law_script"] (sp_z_bag K))
    (C_z_least : Df P w K mg base "_law_least" 1 ["_law_f"] sp_z_least)
    (C_z_made_reader : Df P w K mg base "_law_made_reader" 7 ["_law_f"] (sp_z_made_reader CW CR))
    (C_z_many : Df P w K mg base "_law_many" 2 ["_law_w", "_law_length"] sp_z_many)
    (C_z_pull : Df P w K mg base "_law_pull" 1 ["_law_bag_here", "_law_many_here"] sp_z_pull)
    (C_z_reader : Df P w K mg base "_law_reader" 7 ["_law_bag_here"] sp_z_reader)
    (C_z_reader_text : Df P w K mg base "_law_reader_text" 1 ["_law_f"] sp_z_reader_text)
    (C_z_same : Df P w K mg base "_law_same" 1 ["_law_found", "_law_due"] sp_z_same)
    (C_z_tells_reader : Df P w K mg base "_law_tells_reader" 3 ["_law_reader_here"] (sp_z_tells_reader CW CR))
    (C_z_wider : Df P w K mg base "_law_wider" 4 ["_law_f"] sp_z_wider)
    (C_compiled : Df P w K mg base "compiled" 7 ["text", "web", "other"] (sp_compiled CW CR))
    (C_reader_text : Df P w K mg base "reader_text" 8 ["reader"] (sp_reader_text CW CR))
    : FnOk P w K mg base CX0 10 f fd ["_law_script"] (sp_law K) := by
  obtain ⟨f_Reader_eq, fd_Reader_eq, G_Reader_eq, ne_Reader_eq, b_Reader_eq⟩ := C_Reader_eq.ex
  obtain ⟨f_Reader_other, fd_Reader_other, G_Reader_other, me_Reader_other, b_Reader_other⟩ := C_Reader_other.ex
  obtain ⟨f_Reader_web, fd_Reader_web, G_Reader_web, me_Reader_web, b_Reader_web⟩ := C_Reader_web.ex
  obtain ⟨f_z_bag, fd_z_bag, G_z_bag, m_z_bag, k_z_bag, b_z_bag⟩ := C_z_bag.ex
  obtain ⟨f_z_least, fd_z_least, G_z_least, m_z_least, k_z_least, b_z_least⟩ := C_z_least.ex
  obtain ⟨f_z_made_reader, fd_z_made_reader, G_z_made_reader, m_z_made_reader, k_z_made_reader, b_z_made_reader⟩ := C_z_made_reader.ex
  obtain ⟨f_z_many, fd_z_many, G_z_many, m_z_many, k_z_many, b_z_many⟩ := C_z_many.ex
  obtain ⟨f_z_pull, fd_z_pull, G_z_pull, m_z_pull, k_z_pull, b_z_pull⟩ := C_z_pull.ex
  obtain ⟨f_z_reader, fd_z_reader, G_z_reader, m_z_reader, k_z_reader, b_z_reader⟩ := C_z_reader.ex
  obtain ⟨f_z_reader_text, fd_z_reader_text, G_z_reader_text, m_z_reader_text, k_z_reader_text, b_z_reader_text⟩ := C_z_reader_text.ex
  obtain ⟨f_z_same, fd_z_same, G_z_same, m_z_same, k_z_same, b_z_same⟩ := C_z_same.ex
  obtain ⟨f_z_tells_reader, fd_z_tells_reader, G_z_tells_reader, m_z_tells_reader, k_z_tells_reader, b_z_tells_reader⟩ := C_z_tells_reader.ex
  obtain ⟨f_z_wider, fd_z_wider, G_z_wider, m_z_wider, k_z_wider, b_z_wider⟩ := C_z_wider.ex
  obtain ⟨f_compiled, fd_compiled, G_compiled, m_compiled, k_compiled, b_compiled⟩ := C_compiled.ex
  obtain ⟨f_reader_text, fd_reader_text, G_reader_text, m_reader_text, k_reader_text, b_reader_text⟩ := C_reader_text.ex
  refine F.ok sc_law (fun vs H Q E h => by obtain ⟨_, _, rfl, _⟩ := h; rfl) (fun cdv A outer s H vs Q E hr h => ?_)
  obtain ⟨a, ns, rfl, hs, hl, k⟩ := h
  refine ⟨_, (pss_cons (ps_set (i := 1) sc_law.nd rfl (.inl rfl) (pe_call G_z_bag (hr.mono (by decide)) (by rfl) m_z_bag k_z_bag b_z_bag .nil pass0 (pa_cons (pv 0) pa_nil)))
    (pss_cons (ps_for PassesOwn.never rfl (pi_range1 (by rfl) T.range (pa_cons pe_int pa_nil)) (pg_name (i := 2) sc_law.nd rfl (.inl rfl))
      (pss_cons (ps_set (i := 3) sc_law.nd rfl (.inl rfl) (pe_call G_z_least (hr.mono (by decide)) (by rfl) m_z_least k_z_least b_z_least .nil pass0 (pa_cons (pe_call G_z_reader (hr.mono (by decide)) (by rfl) m_z_reader k_z_reader b_z_reader .nil pass0 (pa_cons (pv 1) pa_nil)) pa_nil)))
      (pss_cons (ps_set (i := 4) sc_law.nd rfl (.inl rfl) (pe_call G_z_made_reader (hr.mono (by decide)) (by rfl) m_z_made_reader k_z_made_reader b_z_made_reader .nil pass0 (pa_cons (pv 3) pa_nil)))
      (pss_cons (ps_if (PW.pt (pw_and (pt_cmpR op_le (pe_call G_z_many (hr.mono (by decide)) (by rfl) m_z_many k_z_many b_z_many .nil pass0 (pa_cons (pe_ix (ix_tupK K) (pv 3) pe_int (fun _ _ => rfl)) (pa_cons (pe_op op_add (pe_ix (ix_tupK K) (pv 3) pe_int (fun _ _ => rfl)) pe_int) pa_nil))) pe_int (nomark _)) (pw_and (pt_cmpR op_lt (pe_ix (ix_tupK K) (pv 3) pe_int (fun _ _ => rfl)) pe_int (nomark _)) (pw_and1 (pt_cmpR op_eq (pe_call G_z_pull (hr.mono (by decide)) (by rfl) m_z_pull k_z_pull b_z_pull .nil pass0 (pa_cons (pv 1) (pa_cons pe_int pa_nil))) pe_int (nomark _))))))
        (pss_one (ps_set (i := 4) sc_law.nd rfl (.inl rfl) (pe_call G_z_made_reader (hr.mono (by decide)) (by rfl) m_z_made_reader k_z_made_reader b_z_made_reader .nil pass0 (pa_cons (pe_call G_z_wider (hr.mono (by decide)) (by rfl) m_z_wider k_z_wider b_z_wider .nil pass0 (pa_cons (pv 3) pa_nil)) pa_nil))))
        pss_nil)
      (pss_cons (ps_set (i := 5) sc_law.nd rfl (.inl rfl) (pe_call G_reader_text (hr.mono (by decide)) (by rfl) m_reader_text k_reader_text b_reader_text .nil pass0 (pa_cons (pv 4) pa_nil)))
      (pss_cons (ps_if (pt_not (pt_val (pe_call G_z_same (hr.mono (by decide)) (by rfl) m_z_same k_z_same b_z_same .nil pass0 (pa_cons (pv 5) (pa_cons (pe_call G_z_reader_text (hr.mono (by decide)) (by rfl) m_z_reader_text k_z_reader_text b_z_reader_text .nil pass0 (pa_cons (pv 3) pa_nil)) pa_nil)))))
        (pss_one (ps_ret pe_bl))
        pss_nil)
      (pss_cons (ps_set (i := 6) sc_law.nd rfl (.inl rfl) (pe_call G_compiled (hr.mono (by decide)) (by rfl) m_compiled k_compiled b_compiled .nil pass0 (pa_cons (pv 5) (pa_cons (pe_meth0 (pv 4) RC.cl me_Reader_web G_Reader_web (hr.mono (by decide)) b_Reader_web .nil pass0) (pa_cons (pe_meth0 (pv 4) RC.cl me_Reader_other G_Reader_other (hr.mono (by decide)) b_Reader_other .nil pass0) pa_nil)))))
      (pss_one (ps_if (PW.pt (pw_or (pt_cmpR (op_neTDK K (u66 hr)) (pe_call G_z_tells_reader (hr.mono (by decide)) (by rfl) m_z_tells_reader k_z_tells_reader b_z_tells_reader .nil pass0 (pa_cons (pv 6) pa_nil)) (pv 3) (nomark _)) (pw_or1 (pt_cmpR (op_neOwn ne_Reader_eq G_Reader_eq b_Reader_eq (hr.mono (by decide)) pass0) (pv 6) (pv 4) (nomark _)))))
        (pss_one (ps_ret pe_bl))
        pss_nil)))))))))
    (pss_one (ps_ret pe_bl)))), ?_⟩
  refine ⟨.ref a, rfl, a, ns, rfl, hs, hl, fun b l H1 e1 hb hB => ?_⟩
  have hb1 : H1 b ≠ none := by
    obtain ⟨⟨p, r, s, c, q, _⟩, _⟩ := hB
    rw [q]
    exact fun z => by cases z
  have g1 : Gr (bagMd b l ns) H H1 H H1 := Gr.refl ⟨e1, hB, fun p hp => by
    rw [show p = b from hp]
    exact ⟨hb, hb1⟩⟩
  refine q_for (ex_rng1 (n := 4) ev_int (by decide)) g1 (fun i σ S' _ => ∃ y2 y3 y4 y5 y6 : Option V, σ = [some (.ref a), some (.ref b), y2, y3, y4, y5, y6]) (fun S2 H2 e2 => ⟨none, none, none, none, none, rfl⟩) ?_ ?_
  · rintro Sb i n σ1 S2 H2 x S3 H3 hi eb g3 e3 ⟨y2, y3, y4, y5, y6, rfl⟩ e4 rfl
    show tSeq _ _ _ [some (.ref a), some (.ref b), some (.int (n : Nat)), y3, y4, y5, y6] _
    refine q_asg (P := LsT) (fun S4 H4 R e o k4 => ?_) g3 fun v3 S4 H4 g4 e5 h3 => ?_
    · refine ea1 (ev_callB () trivial (ea1 (P := IsV (.ref b)) ev_bag)) S4 H4 _ e o fun vs S5 H5 g5 hv => ?_
      obtain ⟨x, rfl, hx⟩ := hv.one
      obtain ⟨w, v, j, T1, dr, hx⟩ := hx
      refine ⟨S5, (w, v, j, T1), ⟨dr.okw, by show (rowsN w j).length ≤ 1000; rw [rowsN_len dr.okw]; have := dr.m; omega, by show many w (j + 1) ≤ 1000; have := dr.m; omega⟩, g5.k.le, .cons hx .nil, fun z S6 H6 g6 hz => k4 z S6 H6 (g5.trans (g6.lift g5.k)) ⟨w, v, _, _, dr.least, lst_is w j T1, hz⟩⟩
    obtain ⟨w, v, j, U, dr, hls, h3⟩ := h3
    have nd : NeedOk w v j U := dr.need
    have wb : Wb w := dr.bw
    have j3 := dr.j3
    refine q_asg (P := RoT CW CR w v j U) (ev_call (w, v, j, U) nd (ea1 (ev_var h3))) g4 fun v4 S5 H5 g5 e6 h4 => ?_
    have h3 := (RdT w v j U).up e6.st h3
    refine q_mid (fun σ H' => ∃ (S' : Hp) (u : V) (i : Nat) (V' : Tb), σ = [some (.ref a), some (.ref b), some (.int (n : Nat)), some v3, some u, y5, y6] ∧ Gr (bagMd b l ns) H H1 S' H' ∧ Same S5 S' ∧ NeedOk w v i V' ∧ lst w i V' = (j, U) ∧ (RoT CW CR w v i V').ok S' u) ?_ fun tail => ?_
    · rintro σ H' ⟨S6, u, i, V', rfl, g6, e7, nd2, hl2, h4⟩
      have h3 := (RdT w v j U).up e7 h3
      refine q_asg (P := D (.str (txtS w j U))) (Ev.conv (ev_call (w, v, i, V') nd2 (ea1 (ev_var h4))) fun S x hx => by
        have hx : (D (.str (txtS w (lst w i V').1 (lst w i V').2))).ok S x := hx
        rw [hl2] at hx
        exact hx) g6 fun v5 S7 H7 g7 e8 h5 => ?_
      have h3 := (RdT w v j U).up e8.st h3
      have h4 := (RoT CW CR w v i V').up e8.st h4
      refine q_ifF (et_not (a := true) (et_val (ev_call (txtS w j U) trivial (ea2 (ev_var h5) (ev_call (w, v, j, U) nd.tx (ea1 (ev_var h3))))))) g7 fun S8 H8 g8 e9 => ?_
      have h3 := (RdT w v j U).up e9.st h3
      have h4 := (RoT CW CR w v i V').up e9.st h4
      have h5 := (D _).up e9.st h5
      refine q_asg (P := RoT CW CR w v j U) (ev_call (w, v, j, U) nd (ea3 (ev_var h5) (ev_meth (w, v, i, V') trivial (ev_var h4) rfl ea_nil rfl) (ev_meth (w, v, i, V') trivial (ev_var h4) rfl ea_nil rfl))) g8 fun v6 S9 H9 g9 e10 h6 => ?_
      have h3 := (RdT w v j U).up e10.st h3
      have h4 := (RoT CW CR w v i V').up e10.st h4
      refine s_if (b := false) (et_or (a := false) (b := false) (et_val (ev_neTD (ev_call (w, v, j, U) nd (ea1 (ev_var h6))) (ev_var h3))) fun _ => et_val (ev_neR (a := ⟨w, v, j, U, i, V'⟩) ⟨nd, nd2, hls.trans hl2.symm⟩ (ev_var h6) (ev_var h4))) g9 (fun z => nomatch z) fun _ S10 H10 g10 e11 => ⟨S10, g10, ?_, _, _, _, _, _, rfl⟩
      exact e3.trans (e5.st.trans (e6.st.trans (e7.trans (e8.st.trans (e9.st.trans (e10.st.trans e11.st))))))
    · have keep : ∀ S6 H6, Gr (bagMd b l ns) H H1 S6 H6 → Gr (bagMd b l ns) S5 H5 S6 H6 → _ := fun S6 H6 g6 e7 => tail [some (.ref a), some (.ref b), some (.int (n : Nat)), some v3, some v4, y5, y6] H6 ⟨S6, v4, j, U, rfl, g6, e7.st, nd, hls, (RoT CW CR w v j U).up e7.st h4⟩
      have t1 : Ev (bagMd b l ns) S5 (tCall sp_z_many [] E0 (tCons (tOp (rIxT K) (tVar 3) (tC (.int 0))) (tCons (tOp (rI0 fun i j => .int (i + j)) (tOp (rIxT K) (tVar 3) (tC (.int 2))) (tC (.int 1))) tNil))) [some (.ref a), some (.ref b), some (.int (n : Nat)), some v3, some v4, y5, y6] (D (nI (many w (j + 2)))) := ev_call (w, j + 2) ⟨wb, by show j + 2 ≤ 100; omega⟩ (ea2 (ev_ixT (P := D (wD w)) (ev_var h3) ev_int rfl rfl) (Ev.eq (ev_opI (g := fun i j => i + j) (ev_ixT (P := D (nI (j + 1))) (ev_var h3) ev_int rfl rfl) ev_int) (by show PyData.int _ = PyData.int _; congr 1)))
      by_cases hc : many w (j + 2) ≤ 200 ∧ j + 1 < 5
      · refine q_ifU (eu_and (et_val (Ev.eq (ev_opB t1 ev_int) (by show PyData.bool (decide (((many w (j + 2) : Nat) : Int) ≤ 200)) = _; rw [decide_eq_true (by omega)]))) (eu_and (et_val (Ev.eq (ev_opB (ev_ixT (P := D (nI (j + 1))) (ev_var h3) ev_int rfl rfl) ev_int) (by show PyData.bool (decide (((j + 1 : Nat) : Int) < 5)) = _; rw [decide_eq_true (by omega)]))) (eu_eq (ev_callB 2 ⟨by decide, by decide⟩ (ea2 ev_bag ev_int)) ev_int))) g5 (fun S6 H6 g6 e7 => ?_) keep
        have h3 := (RdT w v j U).up e7.st h3
        have nd2 : NeedOk w v (j + 1) (wid U) := ⟨wb, dr.bv, dr.aw, by omega, by show many w (j + 2) ≤ 300; omega, dr.rd.wider⟩
        refine s_asg (P := RoT CW CR w v (j + 1) (wid U)) (ev_call (w, v, j + 1, wid U) nd2 (ea1 (ev_call (w, v, j, U) ⟨wb, by show j ≤ 98; omega, by show many w (j + 2) ≤ 1000; omega⟩ (ea1 (ev_var h3))))) g6 fun v9 S7 H7 g7 e8 h9 => tail _ _ ⟨S7, v9, j + 1, wid U, rfl, g7, e7.st.trans e8.st, nd2, (wid_lst w j U).trans hls, h9⟩
      · have t2 : Ev (bagMd b l ns) S5 (tOp (rIxT K) (tVar 3) (tC (.int 2))) [some (.ref a), some (.ref b), some (.int (n : Nat)), some v3, some v4, y5, y6] (D (nI (j + 1))) := ev_ixT (P := D (nI (j + 1))) (ev_var h3) ev_int rfl rfl
        refine q_ifF ?_ g5 keep
        by_cases h200 : many w (j + 2) ≤ 200
        · exact et_and (a := true) (b := false) (et_val (Ev.eq (ev_opB t1 ev_int) (by show PyData.bool (decide (((many w (j + 2) : Nat) : Int) ≤ 200)) = _; rw [decide_eq_true (by omega)]))) fun _ => et_and (a := false) (b := false) (et_val (Ev.eq (ev_opB t2 ev_int) (by show PyData.bool (decide (((j + 1 : Nat) : Int) < 5)) = _; rw [decide_eq_false (by omega)]))) fun z => nomatch z
        · exact et_and (a := false) (b := false) (et_val (Ev.eq (ev_opB t1 ev_int) (by show PyData.bool (decide (((many w (j + 2) : Nat) : Int) ≤ 200)) = _; rw [decide_eq_false (by omega)]))) fun z => nomatch z
  · rintro σ1 S2 H2 g2 e2 ⟨y2, y3, y4, y5, y6, rfl⟩
    exact s_ret (P := D (.bool true)) (fun S4 H4 R e o k => k _ S4 H4 (Gr.refl o) (Dd.bl true)) g2 fun v S' H' g hv => by
      obtain rfl := D_bl hv
      exact k _ (g.st.trans g.k.le)
end
end K49
end
section
set_option linter.all false
set_option maxRecDepth 100000
set_option maxHeartbeats 4000000
namespace K49
open PySem PySem.Spec PyProof.Rows L2 KR KD KB
section
variable {P : Program} {w : World} {K : PySem.W.Frag} {mg : Str → Option Value} {base h : Heap}
/-- a def of the top, a method, an own __eq__, as the top has left them -/
structure GD (K : PySem.W.Frag) (x : Str) (st : Stmt) : Prop where
  ex : ∃ f fd, PySem.W.nsIn K mainGlobals x = some (some (.ref f)) ∧ Fun K x x st f fd
structure MD (K : PySem.W.Frag) (C : Addr) (m q : Str) (st : Stmt) : Prop where
  ex : ∃ f fd, Meth K C m f ∧ Fun K m q st f fd
structure ED (K : PySem.W.Frag) (C : Addr) (q : Str) (st : Stmt) : Prop where
  ex : ∃ f fd, NeCls K C f ∧ Fun K "__eq__" q st f fd
structure CD (K : PySem.W.Frag) (C : Addr) : Prop where
  cl : Cls K C
  mkk : PySem.W.makesIn K C = true
  kp : PySem.W.keepIn K (.ref C) = true
  ha : PySem.W.findIn K (.ref C) "__class__" = some (some (.builtin "object.__class__"))
  hn : PySem.W.specialIn K (.builtin "object.__class__") "__get__" = some (some (.builtin "getset_descriptor.__get__"))
  ht : PySem.W.takesIn K (.builtin "object.__class__") = some true
  hm : PySem.W.mroIn K C (.type "object") = some true
section
variable {x q m : Str} {st : Stmt} {f C N : Addr} {oc : Value} {od an dd : Option Addr} {sl : Array (Option Value)} {kV dc pm cd ct : Value} {nm qn : Str} {bs sub : List Value} {hd ab : Bool} {sn : List Str} {col : Option Bool} {k0 k1 k2 k3 k5 : Option Value} {nid : String}
theorem gd_mk (a : PySem.W.nsIn K mainGlobals x = some (some (.ref f))) (l : K.lookup f = some ⟨oc, od, .func (PySem.W.fnOf x x (defArgs st) (defBody st) (defScope st) .none kV dc pm an cd ct), sl⟩) (c : PySem.W.codeIn K cd x = true) (k : PySem.W.keepIn K (.ref f) = true) : GD K x st := ⟨f, _, a, fun_mk l c k⟩
theorem md_mk (a : PySem.W.findIn K (.ref C) m = some (some (.ref f))) (i : PySem.W.isFn K (.ref f) = true) (l : K.lookup f = some ⟨oc, od, .func (PySem.W.fnOf m q (defArgs st) (defBody st) (defScope st) .none kV dc pm an cd ct), sl⟩) (c : PySem.W.codeIn K cd q = true) (k : PySem.W.keepIn K (.ref f) = true) : MD K C m q st := ⟨f, _, ⟨a, i, k⟩, fun_mk l c k⟩
theorem ed_mk (a : PySem.W.findIn K (.ref C) "__eq__" = some (some (.ref f))) (o : K.lookup C = some (excClassObj nm qn C N bs [.type "object"] hd sn sub ab col dd k0 k1 k2 k3 k5 nid)) (e : PySem.W.nsIn K N "__eq__" = some (some (.ref f))) (n : PySem.W.nsIn K N "__ne__" = some none) (l : K.lookup f = some ⟨.type "function", od, .func (PySem.W.fnOf "__eq__" q (defArgs st) (defBody st) (defScope st) .none kV dc pm an cd ct), sl⟩) (c : PySem.W.codeIn K cd q = true) (k : PySem.W.keepIn K (.ref f) = true) (ok : PySem.W.nsOkIn K N = true) : ED K C q st :=
  ⟨f, _, ⟨⟨nm, qn, N, bs, hd, sn, sub, ab, col, dd, k0, k1, k2, k3, k5, nid, o, ok, e, n⟩, _, l, rfl⟩, fun_mk l c k⟩
theorem cd_mk (pg : PySem.W.plainGet K C Str.empty = true) (hd : PySem.W.hasDictIn K C = true) (po : PySem.W.plainOver K C = true) (sa : PySem.W.findIn K (.ref C) "__setattr__" = some (some (.builtin "object.__setattr__"))) (mk : PySem.W.makesIn K C = true) (kp : PySem.W.keepIn K (.ref C) = true)
    (ha : PySem.W.findIn K (.ref C) "__class__" = some (some (.builtin "object.__class__"))) (hn : PySem.W.specialIn K (.builtin "object.__class__") "__get__" = some (some (.builtin "getset_descriptor.__get__"))) (ht : PySem.W.takesIn K (.builtin "object.__class__") = some true) (hm : PySem.W.mroIn K C (.type "object") = some true) : CD K C := ⟨⟨pg, hd, po, sa⟩, mk, kp, ha, hn, ht, hm⟩
theorem kit_self : PySem.W.kitOne K (.ref C) (.ref C) = some true := by
  unfold PySem.W.kitOne
  rw [if_pos (beq_self_eq_true _)]
theorem CD.ty (c : CD K C) {H : Hp} {a dx : Addr} {fs : List (Str × V)} (e : H a = some (.ins C dx fs)) : TyOf K H (.ref a) (.ref C) := .ins e c.cl c.ha c.hn c.ht c.hm
abbrev BindOk (x q : Str) (st : Stmt) (ps : List Str) : Prop := ∀ (kV doc pm : Value) (an : Option Addr) (cdv ct : Value) (us : List Value), us.length = ps.length → bindArgs (PySem.W.fnOf x q (defArgs st) (defBody st) (defScope st) .none kV doc pm an cdv ct) ⟨us, []⟩ = pure (ps.zip us)
theorem GD.df {k : Nat} {ps : List Str} {sp : Sp} (g : GD K x st) (X : K.In h) (G : h.Ns mainGlobals mg) (b : BindOk x x st ps) (ok : ∀ {f fd}, Fun K x x st f fd → FnOk P w K mg base CX0 k f fd ps sp) : Df P w K mg base x k ps sp := by
  obtain ⟨f, fd, a, F⟩ := g.ex
  exact ⟨f, fd, ok F, PySem.W.mg_of X G a, F.kp, F.binds b⟩
theorem MD.mf {k : Nat} {ps : List Str} {sp : Sp} (g : MD K C m q st) (b : BindOk m q st ps) (ok : ∀ {f fd}, Fun K m q st f fd → FnOk P w K mg base CX0 k f fd ps sp) : Mf P w K mg base C m k ps sp := by
  obtain ⟨f, fd, a, F⟩ := g.ex
  exact ⟨f, fd, ok F, a, F.binds b⟩
theorem MD.jf {k : Nat} {ps : List Str} {sp : Sp} (g : MD K C "__init__" q st) (c : CD K C) (gx : mg x = some (.ref C)) (b : BindOk "__init__" q st ps) (ok : ∀ {f fd}, Fun K "__init__" q st f fd → FnOk P w K mg base CX0 k f fd ps sp) : If P w K mg base x C k ps sp := by
  obtain ⟨f, fd, a, F⟩ := g.ex
  exact ⟨f, fd, ok F, gx, ⟨c.mkk, a.at_, a.fn, c.kp⟩, F.binds b⟩
theorem ED.ef {k : Nat} {ps : List Str} {sp : Sp} (g : ED K C q st) (b : BindOk "__eq__" q st ps) (ok : ∀ {f fd}, Fun K "__eq__" q st f fd → FnOk P w K mg base CX0 k f fd ps sp) : Ef P w K mg base C k ps sp := by
  obtain ⟨f, fd, a, F⟩ := g.ex
  exact ⟨f, fd, ok F, a, F.binds b⟩
end
theorem txt_mk (X : K.In h) (G : h.Ns mainGlobals mg) {t_MOST_ROOMS t_MOST_ARROWS t_MOST_ROWS t_MOST_WINDOW t_MOST_LENGTH t_MOST_FIGURES t_FIGURES : Tok} (z_len : PySem.W.nsIn K mainGlobals "len" = some none) (z_range : PySem.W.nsIn K mainGlobals "range" = some none) (z_enumerate : PySem.W.nsIn K mainGlobals "enumerate" = some none) (z_sum : PySem.W.nsIn K mainGlobals "sum" = some none) (z_sorted : PySem.W.nsIn K mainGlobals "sorted" = some none) (z_list : PySem.W.nsIn K mainGlobals "list" = some none) (z_tuple : PySem.W.nsIn K mainGlobals "tuple" = some none) (z_dict : PySem.W.nsIn K mainGlobals "dict" = some none) (z_set : PySem.W.nsIn K mainGlobals "set" = some none) (z_zip : PySem.W.nsIn K mainGlobals "zip" = some none) (z_isinstance : PySem.W.nsIn K mainGlobals "isinstance" = some none) (z_int : PySem.W.nsIn K mainGlobals "int" = some none) (z_str : PySem.W.nsIn K mainGlobals "str" = some none) (z_bool : PySem.W.nsIn K mainGlobals "bool" = some none) (z_all : PySem.W.nsIn K mainGlobals "all" = some none) (z_MOST_ROOMS : PySem.W.nsIn K mainGlobals "MOST_ROOMS" = some (some (.int 100 t_MOST_ROOMS))) (z_MOST_ARROWS : PySem.W.nsIn K mainGlobals "MOST_ARROWS" = some (some (.int 400 t_MOST_ARROWS))) (z_MOST_ROWS : PySem.W.nsIn K mainGlobals "MOST_ROWS" = some (some (.int 600 t_MOST_ROWS))) (z_MOST_WINDOW : PySem.W.nsIn K mainGlobals "MOST_WINDOW" = some (some (.int 6 t_MOST_WINDOW))) (z_MOST_LENGTH : PySem.W.nsIn K mainGlobals "MOST_LENGTH" = some (some (.int 60 t_MOST_LENGTH))) (z_MOST_FIGURES : PySem.W.nsIn K mainGlobals "MOST_FIGURES" = some (some (.int 6 t_MOST_FIGURES))) (z_FIGURES : PySem.W.nsIn K mainGlobals "FIGURES" = some (some (.str "0123456789" t_FIGURES))) : Txt mg := ⟨PySem.W.mg_none_of X G z_len, PySem.W.mg_none_of X G z_range, PySem.W.mg_none_of X G z_enumerate, PySem.W.mg_none_of X G z_sum, PySem.W.mg_none_of X G z_sorted, PySem.W.mg_none_of X G z_list, PySem.W.mg_none_of X G z_tuple, PySem.W.mg_none_of X G z_dict, PySem.W.mg_none_of X G z_set, PySem.W.mg_none_of X G z_zip, PySem.W.mg_none_of X G z_isinstance, PySem.W.mg_none_of X G z_int, PySem.W.mg_none_of X G z_str, PySem.W.mg_none_of X G z_bool, PySem.W.mg_none_of X G z_all, ⟨_, PySem.W.mg_of X G z_MOST_ROOMS⟩, ⟨_, PySem.W.mg_of X G z_MOST_ARROWS⟩, ⟨_, PySem.W.mg_of X G z_MOST_ROWS⟩, ⟨_, PySem.W.mg_of X G z_MOST_WINDOW⟩, ⟨_, PySem.W.mg_of X G z_MOST_LENGTH⟩, ⟨_, PySem.W.mg_of X G z_MOST_FIGURES⟩, ⟨_, PySem.W.mg_of X G z_FIGURES⟩⟩
/-- all defs joined -/
theorem all_ok {CW CR fa : Addr} (X : K.In h) (G : h.Ns mainGlobals mg) (T : Txt mg) (hfa : mg "law" = some (.ref fa)) (cW : CD K CW) (cR : CD K CR) (aW : PySem.W.nsIn K mainGlobals "Web" = some (some (.ref CW))) (aR : PySem.W.nsIn K mainGlobals "Reader" = some (some (.ref CR)))
    (nW_size : PySem.W.findIn K (.ref CW) "size" = some none) (nW_pairs : PySem.W.findIn K (.ref CW) "pairs" = some none) (nW_leaving : PySem.W.findIn K (.ref CW) "leaving" = some none) (nW_coming : PySem.W.findIn K (.ref CW) "coming" = some none) (nR_source : PySem.W.findIn K (.ref CR) "source" = some none) (nR_goal : PySem.W.findIn K (.ref CR) "goal" = some none) (nR_wide : PySem.W.findIn K (.ref CR) "wide" = some none) (nR_told : PySem.W.findIn K (.ref CR) "told" = some none)
    (g_is_within : GD K "is_within" t_is_within)
    (g_is_listed : GD K "is_listed" t_is_listed)
    (g_is_pair : GD K "is_pair" t_is_pair)
    (g_Web_init : MD K CW "__init__" "Web.__init__" t_Web_init)
    (g_Web_eq : ED K CW "Web.__eq__" t_Web_eq)
    (g_Web_len : MD K CW "__len__" "Web.__len__" t_Web_len)
    (g_Web_rooms : MD K CW "rooms" "Web.rooms" t_Web_rooms)
    (g_Web_arrows : MD K CW "arrows" "Web.arrows" t_Web_arrows)
    (g_Web_has_arrow : MD K CW "has_arrow" "Web.has_arrow" t_Web_has_arrow)
    (g_Web_begin : MD K CW "begin" "Web.begin" t_Web_begin)
    (g_Web_end : MD K CW "end" "Web.end" t_Web_end)
    (g_Web_on : MD K CW "on" "Web.on" t_Web_on)
    (g_Web_many : MD K CW "many" "Web.many" t_Web_many)
    (g_Web_rows : MD K CW "rows" "Web.rows" t_Web_rows)
    (g_need_table : GD K "need_table" t_need_table)
    (g_shorter : GD K "shorter" t_shorter)
    (g_Reader_init : MD K CR "__init__" "Reader.__init__" t_Reader_init)
    (g_Reader_eq : ED K CR "Reader.__eq__" t_Reader_eq)
    (g_Reader_web : MD K CR "web" "Reader.web" t_Reader_web)
    (g_Reader_other : MD K CR "other" "Reader.other" t_Reader_other)
    (g_Reader_window : MD K CR "window" "Reader.window" t_Reader_window)
    (g_Reader_table : MD K CR "table" "Reader.table" t_Reader_table)
    (g_Reader_least : MD K CR "least" "Reader.least" t_Reader_least)
    (g_number_in : GD K "number_in" t_number_in)
    (g_head_window : GD K "head_window" t_head_window)
    (g_arrows_of : GD K "arrows_of" t_arrows_of)
    (g_rule_in : GD K "rule_in" t_rule_in)
    (g_compiled : GD K "compiled" t_compiled)
    (g_reader_text : GD K "reader_text" t_reader_text)
    (g_z_bag : GD K "_law_bag" t_z_bag)
    (g_z_pull : GD K "_law_pull" t_z_pull)
    (g_z_of : GD K "_law_of" t_z_of)
    (g_z_same : GD K "_law_same" t_z_same)
    (g_z_mixed : GD K "_law_mixed" t_z_mixed)
    (g_z_web : GD K "_law_web" t_z_web)
    (g_z_made : GD K "_law_made" t_z_made)
    (g_z_tells : GD K "_law_tells" t_z_tells)
    (g_z_outs : GD K "_law_outs" t_z_outs)
    (g_z_ins : GD K "_law_ins" t_z_ins)
    (g_z_on : GD K "_law_on" t_z_on)
    (g_z_many : GD K "_law_many" t_z_many)
    (g_z_rows : GD K "_law_rows" t_z_rows)
    (g_z_column : GD K "_law_column" t_z_column)
    (g_z_folds : GD K "_law_folds" t_z_folds)
    (g_z_fold : GD K "_law_fold" t_z_fold)
    (g_z_split : GD K "_law_split" t_z_split)
    (g_z_named : GD K "_law_named" t_z_named)
    (g_z_naming : GD K "_law_naming" t_z_naming)
    (g_z_part : GD K "_law_part" t_z_part)
    (g_z_splits : GD K "_law_splits" t_z_splits)
    (g_z_rich : GD K "_law_rich" t_z_rich)
    (g_z_table_made : GD K "_law_table_made" t_z_table_made)
    (g_z_least : GD K "_law_least" t_z_least)
    (g_z_same_reader : GD K "_law_same_reader" t_z_same_reader)
    (g_z_by_arrows : GD K "_law_by_arrows" t_z_by_arrows)
    (g_z_join : GD K "_law_join" t_z_join)
    (g_z_fold_codes : GD K "_law_fold_codes" t_z_fold_codes)
    (g_z_split_codes : GD K "_law_split_codes" t_z_split_codes)
    (g_z_named_codes : GD K "_law_named_codes" t_z_named_codes)
    (g_z_code_step : GD K "_law_code_step" t_z_code_step)
    (g_z_code : GD K "_law_code" t_z_code)
    (g_z_blur : GD K "_law_blur" t_z_blur)
    (g_z_reader : GD K "_law_reader" t_z_reader)
    (g_z_made_reader : GD K "_law_made_reader" t_z_made_reader)
    (g_z_tells_reader : GD K "_law_tells_reader" t_z_tells_reader)
    (g_z_wider : GD K "_law_wider" t_z_wider)
    (g_z_reader_text : GD K "_law_reader_text" t_z_reader_text)
    (g_law : GD K "law" t_law) :
    ∃ fd : FuncData, (∀ (s : Shared) (v : Value), BindsTo s fd ⟨[v], []⟩ [("_law_script", v)]) ∧ ∀ base : Heap, K.In base → base.Ns mainGlobals mg → FnOk P w K mg base CX0 10 fa fd ["_law_script"] (sp_law K) := by
  obtain ⟨f0, fd0, a0, F0⟩ := g_law.ex
  have e0 : fa = f0 := by
    have e := hfa.symm.trans (PySem.W.mg_of X G a0)
    cases e
    rfl
  subst e0
  refine ⟨fd0, fun s v => ?_, fun base hb hn => ?_⟩
  · obtain ⟨oc, od, kV, doc, pm, an, cdv, ct, osl, rfl, lk, hcd⟩ := F0.ex
    exact .of_eq rfl
  have WC : WebC K mg CW := ⟨cW.cl, PySem.W.mg_of X G aW, nW_size, nW_pairs, nW_leaving, nW_coming, cW.ty, kit_self⟩
  have RC : RdrC K mg CR := ⟨cR.cl, PySem.W.mg_of X G aR, nR_source, nR_goal, nR_wide, nR_told, cR.ty, kit_self⟩
  have C_is_within : Df P w K mg base "is_within" 1 ["thing", "low", "high"] sp_is_within := g_is_within.df X G (fun _ _ _ _ _ _ us hl => match us, hl with | [_, _, _], _ => rfl) (fun F => ok_is_within F T)
  have C_is_listed : Df P w K mg base "is_listed" 1 ["thing"] sp_is_listed := g_is_listed.df X G (fun _ _ _ _ _ _ us hl => match us, hl with | [_], _ => rfl) (fun F => ok_is_listed F T)
  have C_Web_eq : Ef P w K mg base CW 1 ["self", "other"] (sp_Web_eq CW CR) := g_Web_eq.ef (fun _ _ _ _ _ _ us hl => match us, hl with | [_, _], _ => rfl) (fun F => ok_Web_eq WC RC F T)
  have C_Web_len : Mf P w K mg base CW "__len__" 1 ["self"] (sp_Web_len CW CR) := g_Web_len.mf (fun _ _ _ _ _ _ us hl => match us, hl with | [_], _ => rfl) (fun F => ok_Web_len WC RC F T)
  have C_Web_rooms : Mf P w K mg base CW "rooms" 1 ["self"] (sp_Web_rooms CW CR) := g_Web_rooms.mf (fun _ _ _ _ _ _ us hl => match us, hl with | [_], _ => rfl) (fun F => ok_Web_rooms WC RC F T)
  have C_Web_arrows : Mf P w K mg base CW "arrows" 1 ["self"] (sp_Web_arrows CW CR) := g_Web_arrows.mf (fun _ _ _ _ _ _ us hl => match us, hl with | [_], _ => rfl) (fun F => ok_Web_arrows WC RC F T)
  have C_Web_on : Mf P w K mg base CW "on" 1 ["self", "arrow"] (sp_Web_on CW CR) := g_Web_on.mf (fun _ _ _ _ _ _ us hl => match us, hl with | [_, _], _ => rfl) (fun F => ok_Web_on WC RC F T)
  have C_shorter : Df P w K mg base "shorter" 1 ["table"] sp_shorter := g_shorter.df X G (fun _ _ _ _ _ _ us hl => match us, hl with | [_], _ => rfl) (fun F => ok_shorter F T)
  have C_Reader_web : Mf P w K mg base CR "web" 1 ["self"] (sp_Reader_web CW CR) := g_Reader_web.mf (fun _ _ _ _ _ _ us hl => match us, hl with | [_], _ => rfl) (fun F => ok_Reader_web WC RC F T)
  have C_Reader_other : Mf P w K mg base CR "other" 1 ["self"] (sp_Reader_other CW CR) := g_Reader_other.mf (fun _ _ _ _ _ _ us hl => match us, hl with | [_], _ => rfl) (fun F => ok_Reader_other WC RC F T)
  have C_Reader_window : Mf P w K mg base CR "window" 1 ["self"] (sp_Reader_window CW CR) := g_Reader_window.mf (fun _ _ _ _ _ _ us hl => match us, hl with | [_], _ => rfl) (fun F => ok_Reader_window WC RC F T)
  have C_Reader_table : Mf P w K mg base CR "table" 1 ["self"] (sp_Reader_table CW CR) := g_Reader_table.mf (fun _ _ _ _ _ _ us hl => match us, hl with | [_], _ => rfl) (fun F => ok_Reader_table WC RC F T)
  have C_number_in : Df P w K mg base "number_in" 1 ["word"] sp_number_in := g_number_in.df X G (fun _ _ _ _ _ _ us hl => match us, hl with | [_], _ => rfl) (fun F => ok_number_in F T)
  have C_z_bag : Df P w K mg base "_law_bag" 1 ["_law_script"] (sp_z_bag K) := g_z_bag.df X G (fun _ _ _ _ _ _ us hl => match us, hl with | [_], _ => rfl) (fun F => ok_z_bag F T)
  have C_z_pull : Df P w K mg base "_law_pull" 1 ["_law_bag_here", "_law_many_here"] sp_z_pull := g_z_pull.df X G (fun _ _ _ _ _ _ us hl => match us, hl with | [_, _], _ => rfl) (fun F => ok_z_pull F T)
  have C_z_same : Df P w K mg base "_law_same" 1 ["_law_found", "_law_due"] sp_z_same := g_z_same.df X G (fun _ _ _ _ _ _ us hl => match us, hl with | [_, _], _ => rfl) (fun F => ok_z_same F T)
  have C_z_outs : Df P w K mg base "_law_outs" 1 ["_law_w", "_law_room"] sp_z_outs := g_z_outs.df X G (fun _ _ _ _ _ _ us hl => match us, hl with | [_, _], _ => rfl) (fun F => ok_z_outs F T)
  have C_z_ins : Df P w K mg base "_law_ins" 1 ["_law_w", "_law_room"] sp_z_ins := g_z_ins.df X G (fun _ _ _ _ _ _ us hl => match us, hl with | [_, _], _ => rfl) (fun F => ok_z_ins F T)
  have C_z_named : Df P w K mg base "_law_named" 1 ["_law_w", "_law_rooms", "_law_arrows"] sp_z_named := g_z_named.df X G (fun _ _ _ _ _ _ us hl => match us, hl with | [_, _, _], _ => rfl) (fun F => ok_z_named F T)
  have C_z_table_made : Df P w K mg base "_law_table_made" 1 ["_law_table", "_law_wide", "_law_row"] sp_z_table_made := g_z_table_made.df X G (fun _ _ _ _ _ _ us hl => match us, hl with | [_, _, _], _ => rfl) (fun F => ok_z_table_made F T)
  have C_z_least : Df P w K mg base "_law_least" 1 ["_law_f"] sp_z_least := g_z_least.df X G (fun _ _ _ _ _ _ us hl => match us, hl with | [_], _ => rfl) (fun F => ok_z_least F T)
  have C_z_same_reader : Df P w K mg base "_law_same_reader" 1 ["_law_w"] sp_z_same_reader := g_z_same_reader.df X G (fun _ _ _ _ _ _ us hl => match us, hl with | [_], _ => rfl) (fun F => ok_z_same_reader F T)
  have C_z_by_arrows : Df P w K mg base "_law_by_arrows" 1 ["_law_w", "_law_v", "_law_arrows"] sp_z_by_arrows := g_z_by_arrows.df X G (fun _ _ _ _ _ _ us hl => match us, hl with | [_, _, _], _ => rfl) (fun F => ok_z_by_arrows F T)
  have C_z_reader_text : Df P w K mg base "_law_reader_text" 1 ["_law_f"] sp_z_reader_text := g_z_reader_text.df X G (fun _ _ _ _ _ _ us hl => match us, hl with | [_], _ => rfl) (fun F => ok_z_reader_text F T)
  have C_is_pair : Df P w K mg base "is_pair" 2 ["thing", "rooms"] sp_is_pair := g_is_pair.df X G (fun _ _ _ _ _ _ us hl => match us, hl with | [_, _], _ => rfl) (fun F => ok_is_pair F T C_is_listed C_is_within)
  have C_Web_has_arrow : Mf P w K mg base CW "has_arrow" 2 ["self", "arrow"] (sp_Web_has_arrow CW CR) := g_Web_has_arrow.mf (fun _ _ _ _ _ _ us hl => match us, hl with | [_, _], _ => rfl) (fun F => ok_Web_has_arrow WC RC F T C_is_within)
  have C_Web_many : Mf P w K mg base CW "many" 2 ["self", "length"] (sp_Web_many CW CR) := g_Web_many.mf (fun _ _ _ _ _ _ us hl => match us, hl with | [_, _], _ => rfl) (fun F => ok_Web_many WC RC F T C_is_within)
  have C_head_window : Df P w K mg base "head_window" 2 ["row"] sp_head_window := g_head_window.df X G (fun _ _ _ _ _ _ us hl => match us, hl with | [_], _ => rfl) (fun F => ok_head_window F T C_number_in)
  have C_z_of : Df P w K mg base "_law_of" 2 ["_law_bag_here", "_law_some"] sp_z_of := g_z_of.df X G (fun _ _ _ _ _ _ us hl => match us, hl with | [_, _], _ => rfl) (fun F => ok_z_of F T C_z_pull)
  have C_z_mixed : Df P w K mg base "_law_mixed" 2 ["_law_bag_here", "_law_some"] sp_z_mixed := g_z_mixed.df X G (fun _ _ _ _ _ _ us hl => match us, hl with | [_, _], _ => rfl) (fun F => ok_z_mixed F T C_z_pull)
  have C_z_tells : Df P w K mg base "_law_tells" 2 ["_law_web_here"] (sp_z_tells CW CR) := g_z_tells.df X G (fun _ _ _ _ _ _ us hl => match us, hl with | [_], _ => rfl) (fun F => ok_z_tells WC RC F T C_Web_arrows C_Web_rooms)
  have C_z_on : Df P w K mg base "_law_on" 2 ["_law_w", "_law_arrow"] sp_z_on := g_z_on.df X G (fun _ _ _ _ _ _ us hl => match us, hl with | [_, _], _ => rfl) (fun F => ok_z_on F T C_z_outs)
  have C_z_many : Df P w K mg base "_law_many" 2 ["_law_w", "_law_length"] sp_z_many := g_z_many.df X G (fun _ _ _ _ _ _ us hl => match us, hl with | [_, _], _ => rfl) (fun F => ok_z_many F T C_z_outs)
  have C_z_column : Df P w K mg base "_law_column" 2 ["_law_w", "_law_room"] sp_z_column := g_z_column.df X G (fun _ _ _ _ _ _ us hl => match us, hl with | [_, _], _ => rfl) (fun F => ok_z_column F T C_z_ins)
  have C_z_fold : Df P w K mg base "_law_fold" 2 ["_law_w", "_law_one", "_law_other"] sp_z_fold := g_z_fold.df X G (fun _ _ _ _ _ _ us hl => match us, hl with | [_, _, _], _ => rfl) (fun F => ok_z_fold F T C_z_outs)
  have C_z_split : Df P w K mg base "_law_split" 2 ["_law_w", "_law_room", "_law_part_here"] sp_z_split := g_z_split.df X G (fun _ _ _ _ _ _ us hl => match us, hl with | [_, _, _], _ => rfl) (fun F => ok_z_split F T C_z_ins)
  have C_z_named_codes : Df P w K mg base "_law_named_codes" 2 ["_law_w", "_law_rooms", "_law_arrows"] sp_z_named_codes := g_z_named_codes.df X G (fun _ _ _ _ _ _ us hl => match us, hl with | [_, _, _], _ => rfl) (fun F => ok_z_named_codes F T C_z_by_arrows C_z_named)
  have C_z_blur : Df P w K mg base "_law_blur" 2 ["_law_bag_here", "_law_w"] sp_z_blur := g_z_blur.df X G (fun _ _ _ _ _ _ us hl => match us, hl with | [_, _], _ => rfl) (fun F => ok_z_blur F T C_z_by_arrows C_z_pull)
  have C_Web_init : If P w K mg base "Web" CW 3 ["self", "rooms", "arrows"] (sp_Web_init CW CR) := g_Web_init.jf cW (PySem.W.mg_of X G aW) (fun _ _ _ _ _ _ us hl => match us, hl with | [_, _, _], _ => rfl) (fun F => ok_Web_init WC RC F T C_is_pair C_is_within)
  have C_Web_begin : Mf P w K mg base CW "begin" 3 ["self", "arrow"] (sp_Web_begin CW CR) := g_Web_begin.mf (fun _ _ _ _ _ _ us hl => match us, hl with | [_, _], _ => rfl) (fun F => ok_Web_begin WC RC F T C_Web_has_arrow)
  have C_Web_end : Mf P w K mg base CW "end" 3 ["self", "arrow"] (sp_Web_end CW CR) := g_Web_end.mf (fun _ _ _ _ _ _ us hl => match us, hl with | [_, _], _ => rfl) (fun F => ok_Web_end WC RC F T C_Web_has_arrow)
  have C_Web_rows : Mf P w K mg base CW "rows" 3 ["self", "length"] (sp_Web_rows CW CR) := g_Web_rows.mf (fun _ _ _ _ _ _ us hl => match us, hl with | [_, _], _ => rfl) (fun F => ok_Web_rows WC RC F T C_Web_many C_Web_on C_is_within)
  have C_arrows_of : Df P w K mg base "arrows_of" 3 ["web", "word"] (sp_arrows_of CW CR) := g_arrows_of.df X G (fun _ _ _ _ _ _ us hl => match us, hl with | [_, _], _ => rfl) (fun F => ok_arrows_of WC RC F T C_Web_len C_Web_arrows C_Web_rooms C_number_in)
  have C_z_web : Df P w K mg base "_law_web" 3 ["_law_bag_here", "_law_rooms_most", "_law_more_most"] sp_z_web := g_z_web.df X G (fun _ _ _ _ _ _ us hl => match us, hl with | [_, _, _], _ => rfl) (fun F => ok_z_web F T C_z_mixed C_z_pull)
  have C_z_rows : Df P w K mg base "_law_rows" 3 ["_law_w", "_law_length"] sp_z_rows := g_z_rows.df X G (fun _ _ _ _ _ _ us hl => match us, hl with | [_, _], _ => rfl) (fun F => ok_z_rows F T C_z_on)
  have C_z_folds : Df P w K mg base "_law_folds" 3 ["_law_w"] sp_z_folds := g_z_folds.df X G (fun _ _ _ _ _ _ us hl => match us, hl with | [_], _ => rfl) (fun F => ok_z_folds F T C_z_column)
  have C_z_naming : Df P w K mg base "_law_naming" 3 ["_law_bag_here", "_law_w"] sp_z_naming := g_z_naming.df X G (fun _ _ _ _ _ _ us hl => match us, hl with | [_, _], _ => rfl) (fun F => ok_z_naming F T C_z_mixed)
  have C_z_part : Df P w K mg base "_law_part" 3 ["_law_bag_here", "_law_w", "_law_room"] sp_z_part := g_z_part.df X G (fun _ _ _ _ _ _ us hl => match us, hl with | [_, _, _], _ => rfl) (fun F => ok_z_part F T C_z_mixed C_z_outs C_z_pull)
  have C_z_tells_reader : Df P w K mg base "_law_tells_reader" 3 ["_law_reader_here"] (sp_z_tells_reader CW CR) := g_z_tells_reader.df X G (fun _ _ _ _ _ _ us hl => match us, hl with | [_], _ => rfl) (fun F => ok_z_tells_reader WC RC F T C_Reader_other C_Reader_table C_Reader_web C_Reader_window C_z_tells)
  have C_need_table : Df P w K mg base "need_table" 4 ["web", "other", "window", "table"] (sp_need_table CW CR) := g_need_table.df X G (fun _ _ _ _ _ _ us hl => match us, hl with | [_, _, _, _], _ => rfl) (fun F => ok_need_table WC RC F T C_Web_begin C_Web_end C_Web_has_arrow C_Web_on C_Web_rows C_is_within)
  have C_rule_in : Df P w K mg base "rule_in" 4 ["web", "other", "window", "row"] (sp_rule_in CW CR) := g_rule_in.df X G (fun _ _ _ _ _ _ us hl => match us, hl with | [_, _, _, _], _ => rfl) (fun F => ok_rule_in WC RC F T C_Web_has_arrow C_arrows_of C_number_in)
  have C_z_splits : Df P w K mg base "_law_splits" 4 ["_law_bag_here", "_law_w", "_law_times", "_law_rooms_most", "_law_arrows_most"] sp_z_splits := g_z_splits.df X G (fun _ _ _ _ _ _ us hl => match us, hl with | [_, _, _, _, _], _ => rfl) (fun F => ok_z_splits F T C_z_ins C_z_part C_z_pull C_z_split)
  have C_z_join : Df P w K mg base "_law_join" 4 ["_law_f", "_law_g"] sp_z_join := g_z_join.df X G (fun _ _ _ _ _ _ us hl => match us, hl with | [_, _], _ => rfl) (fun F => ok_z_join F T C_z_least C_z_rows C_z_table_made)
  have C_z_fold_codes : Df P w K mg base "_law_fold_codes" 4 ["_law_w", "_law_one", "_law_other"] sp_z_fold_codes := g_z_fold_codes.df X G (fun _ _ _ _ _ _ us hl => match us, hl with | [_, _, _], _ => rfl) (fun F => ok_z_fold_codes F T C_z_by_arrows C_z_fold C_z_least C_z_rows)
  have C_z_split_codes : Df P w K mg base "_law_split_codes" 4 ["_law_w", "_law_room", "_law_part_here"] sp_z_split_codes := g_z_split_codes.df X G (fun _ _ _ _ _ _ us hl => match us, hl with | [_, _, _], _ => rfl) (fun F => ok_z_split_codes F T C_z_by_arrows C_z_least C_z_rows C_z_split)
  have C_z_wider : Df P w K mg base "_law_wider" 4 ["_law_f"] sp_z_wider := g_z_wider.df X G (fun _ _ _ _ _ _ us hl => match us, hl with | [_], _ => rfl) (fun F => ok_z_wider F T C_z_rows)
  have C_Reader_init : If P w K mg base "Reader" CR 5 ["self", "web", "other", "window", "table"] (sp_Reader_init CW CR) := g_Reader_init.jf cR (PySem.W.mg_of X G aR) (fun _ _ _ _ _ _ us hl => match us, hl with | [_, _, _, _, _], _ => rfl) (fun F => ok_Reader_init WC RC F T C_need_table)
  have C_z_made : Df P w K mg base "_law_made" 5 ["_law_w"] (sp_z_made CW CR) := g_z_made.df X G (fun _ _ _ _ _ _ us hl => match us, hl with | [_], _ => rfl) (fun F => ok_z_made WC RC F T C_Web_init)
  have C_z_rich : Df P w K mg base "_law_rich" 5 ["_law_bag_here", "_law_rooms_most", "_law_arrows_most"] sp_z_rich := g_z_rich.df X G (fun _ _ _ _ _ _ us hl => match us, hl with | [_, _, _], _ => rfl) (fun F => ok_z_rich F T C_z_named C_z_naming C_z_pull C_z_splits C_z_web)
  have C_z_code_step : Df P w K mg base "_law_code_step" 5 ["_law_bag_here", "_law_w", "_law_rooms_most", "_law_arrows_most"] sp_z_code_step := g_z_code_step.df X G (fun _ _ _ _ _ _ us hl => match us, hl with | [_, _, _, _], _ => rfl) (fun F => ok_z_code_step F T C_z_fold_codes C_z_folds C_z_ins C_z_named_codes C_z_naming C_z_of C_z_part C_z_pull C_z_split_codes)
  have C_z_code : Df P w K mg base "_law_code" 6 ["_law_bag_here", "_law_w", "_law_times"] sp_z_code := g_z_code.df X G (fun _ _ _ _ _ _ us hl => match us, hl with | [_, _, _], _ => rfl) (fun F => ok_z_code F T C_z_code_step C_z_join C_z_many C_z_same_reader)
  have C_Reader_least : Mf P w K mg base CR "least" 7 ["self"] (sp_Reader_least CW CR) := g_Reader_least.mf (fun _ _ _ _ _ _ us hl => match us, hl with | [_], _ => rfl) (fun F => ok_Reader_least WC RC F T C_Reader_init C_shorter)
  have C_compiled : Df P w K mg base "compiled" 7 ["text", "web", "other"] (sp_compiled CW CR) := g_compiled.df X G (fun _ _ _ _ _ _ us hl => match us, hl with | [_, _, _], _ => rfl) (fun F => ok_compiled WC RC F T C_Reader_init C_Web_many C_Web_rows C_head_window C_rule_in)
  have C_z_reader : Df P w K mg base "_law_reader" 7 ["_law_bag_here"] sp_z_reader := g_z_reader.df X G (fun _ _ _ _ _ _ us hl => match us, hl with | [_], _ => rfl) (fun F => ok_z_reader F T C_z_blur C_z_code C_z_join C_z_pull C_z_rich)
  have C_z_made_reader : Df P w K mg base "_law_made_reader" 7 ["_law_f"] (sp_z_made_reader CW CR) := g_z_made_reader.df X G (fun _ _ _ _ _ _ us hl => match us, hl with | [_], _ => rfl) (fun F => ok_z_made_reader WC RC F T C_Reader_init C_z_made)
  have C_Reader_eq : Ef P w K mg base CR 8 ["self", "other"] (sp_Reader_eq CW CR) := g_Reader_eq.ef (fun _ _ _ _ _ _ us hl => match us, hl with | [_, _], _ => rfl) (fun F => ok_Reader_eq WC RC F T C_Reader_least C_Web_eq)
  have C_reader_text : Df P w K mg base "reader_text" 8 ["reader"] (sp_reader_text CW CR) := g_reader_text.df X G (fun _ _ _ _ _ _ us hl => match us, hl with | [_], _ => rfl) (fun F => ok_reader_text WC RC F T C_Reader_least C_Reader_table C_Reader_window)
  exact ok_law WC RC F0 T C_Reader_eq C_Reader_other C_Reader_web C_z_bag C_z_least C_z_made_reader C_z_many C_z_pull C_z_reader C_z_reader_text C_z_same C_z_tells_reader C_z_wider C_compiled C_reader_text
end
theorem walk {l : PySem.W.OpenLaw} {q : Program} {loose : List Str} {XP : (Str → Option Value) → Heap → Prop} {YP : World → Heap → Prop} {d : DefRec} {K : Params → PySem.W.Frag} (hn : l.most = some 63) (hdf : d.params.defaults = [])
    (hY : ∀ (w : World) (h : Heap), YP w h → (K w.params).In h)
    (F : ∀ (w : World) (mg : Str → Option Value) (fa : Addr) (h : Heap), (K w.params).In h → h.Ns mainGlobals mg → mg d.name = some (.ref fa) →
      ∃ fd : FuncData, (∀ (s : Shared) (u : Value), BindsTo s fd ⟨[u], []⟩ [("_law_script", u)]) ∧ ∀ base : Heap, (K w.params).In base → base.Ns mainGlobals mg → FnOk l.prog w (K w.params) mg base CX0 10 fa fd ["_law_script"] (sp_law (K w.params))) :
    PySem.W.WalkO q loose XP YP l.row.toRowW d [] (fun f vs => PySem.call f vs) :=
  L2.walk_of (n := 63) (k := 10) (x := "_law_script") (CX := fun _ => CX0) (sp := fun w => sp_law (K w.params)) hn (by decide) hdf ⟨rfl, by decide, by decide⟩ hY F (fun _ _ a ns hl _ hS => ⟨a, ns, rfl, hS, hl, fun _ _ => rfl⟩) fun _ _ _ _ _ z => z
end K49
end
open PySem PySem.W PyProof.Rows in
set_option maxRecDepth 100000 in
set_option maxHeartbeats 0 in
theorem PySem.Challenge.cw_aheadfold_k49_whole_readers_written_and_holds : PySem.Challenge.rw_aheadfold_k49_whole_readers_written_and.Holds := by
  w_on; o_law; k_head; (case hw => w_witness2)
  k_fill
  refine K49.walk (l := PySem.Challenge.rw_aheadfold_k49_whole_readers_written_and) rfl rfl (fun w h Y => PySem.W.kIn_of Y) ?F
  case F =>
    intro w mg fa h KX G hmg
    refine' K49.all_ok KX G (K49.txt_mk KX G ?z_len ?z_range ?z_enumerate ?z_sum ?z_sorted ?z_list ?z_tuple ?z_dict ?z_set ?z_zip ?z_isinstance ?z_int ?z_str ?z_bool ?z_all ?z_MOST_ROOMS ?z_MOST_ARROWS ?z_MOST_ROWS ?z_MOST_WINDOW ?z_MOST_LENGTH ?z_MOST_FIGURES ?z_FIGURES) hmg (K49.cd_mk ?pg_W ?hd_W ?po_W ?sa_W ?mk_W ?kp_W ?ha_W ?hn_W ?ht_W ?hm_W) (K49.cd_mk ?pg_R ?hd_R ?po_R ?sa_R ?mk_R ?kp_R ?ha_R ?hn_R ?ht_R ?hm_R) ?aW ?aR ?nW_size ?nW_pairs ?nW_leaving ?nW_coming ?nR_source ?nR_goal ?nR_wide ?nR_told (K49.gd_mk ?a_is_within ?l_is_within ?c_is_within ?k_is_within) (K49.gd_mk ?a_is_listed ?l_is_listed ?c_is_listed ?k_is_listed) (K49.gd_mk ?a_is_pair ?l_is_pair ?c_is_pair ?k_is_pair) (K49.md_mk ?a_Web_init ?i_Web_init ?l_Web_init ?c_Web_init ?k_Web_init) (K49.ed_mk ?a_Web_eq ?o_Web_eq ?e_Web_eq ?n_Web_eq ?l_Web_eq ?c_Web_eq ?k_Web_eq ?x_Web_eq) (K49.md_mk ?a_Web_len ?i_Web_len ?l_Web_len ?c_Web_len ?k_Web_len) (K49.md_mk ?a_Web_rooms ?i_Web_rooms ?l_Web_rooms ?c_Web_rooms ?k_Web_rooms) (K49.md_mk ?a_Web_arrows ?i_Web_arrows ?l_Web_arrows ?c_Web_arrows ?k_Web_arrows) (K49.md_mk ?a_Web_has_arrow ?i_Web_has_arrow ?l_Web_has_arrow ?c_Web_has_arrow ?k_Web_has_arrow) (K49.md_mk ?a_Web_begin ?i_Web_begin ?l_Web_begin ?c_Web_begin ?k_Web_begin) (K49.md_mk ?a_Web_end ?i_Web_end ?l_Web_end ?c_Web_end ?k_Web_end) (K49.md_mk ?a_Web_on ?i_Web_on ?l_Web_on ?c_Web_on ?k_Web_on) (K49.md_mk ?a_Web_many ?i_Web_many ?l_Web_many ?c_Web_many ?k_Web_many) (K49.md_mk ?a_Web_rows ?i_Web_rows ?l_Web_rows ?c_Web_rows ?k_Web_rows) (K49.gd_mk ?a_need_table ?l_need_table ?c_need_table ?k_need_table) (K49.gd_mk ?a_shorter ?l_shorter ?c_shorter ?k_shorter) (K49.md_mk ?a_Reader_init ?i_Reader_init ?l_Reader_init ?c_Reader_init ?k_Reader_init) (K49.ed_mk ?a_Reader_eq ?o_Reader_eq ?e_Reader_eq ?n_Reader_eq ?l_Reader_eq ?c_Reader_eq ?k_Reader_eq ?x_Reader_eq) (K49.md_mk ?a_Reader_web ?i_Reader_web ?l_Reader_web ?c_Reader_web ?k_Reader_web) (K49.md_mk ?a_Reader_other ?i_Reader_other ?l_Reader_other ?c_Reader_other ?k_Reader_other) (K49.md_mk ?a_Reader_window ?i_Reader_window ?l_Reader_window ?c_Reader_window ?k_Reader_window) (K49.md_mk ?a_Reader_table ?i_Reader_table ?l_Reader_table ?c_Reader_table ?k_Reader_table) (K49.md_mk ?a_Reader_least ?i_Reader_least ?l_Reader_least ?c_Reader_least ?k_Reader_least) (K49.gd_mk ?a_number_in ?l_number_in ?c_number_in ?k_number_in) (K49.gd_mk ?a_head_window ?l_head_window ?c_head_window ?k_head_window) (K49.gd_mk ?a_arrows_of ?l_arrows_of ?c_arrows_of ?k_arrows_of) (K49.gd_mk ?a_rule_in ?l_rule_in ?c_rule_in ?k_rule_in) (K49.gd_mk ?a_compiled ?l_compiled ?c_compiled ?k_compiled) (K49.gd_mk ?a_reader_text ?l_reader_text ?c_reader_text ?k_reader_text) (K49.gd_mk ?a_z_bag ?l_z_bag ?c_z_bag ?k_z_bag) (K49.gd_mk ?a_z_pull ?l_z_pull ?c_z_pull ?k_z_pull) (K49.gd_mk ?a_z_of ?l_z_of ?c_z_of ?k_z_of) (K49.gd_mk ?a_z_same ?l_z_same ?c_z_same ?k_z_same) (K49.gd_mk ?a_z_mixed ?l_z_mixed ?c_z_mixed ?k_z_mixed) (K49.gd_mk ?a_z_web ?l_z_web ?c_z_web ?k_z_web) (K49.gd_mk ?a_z_made ?l_z_made ?c_z_made ?k_z_made) (K49.gd_mk ?a_z_tells ?l_z_tells ?c_z_tells ?k_z_tells) (K49.gd_mk ?a_z_outs ?l_z_outs ?c_z_outs ?k_z_outs) (K49.gd_mk ?a_z_ins ?l_z_ins ?c_z_ins ?k_z_ins) (K49.gd_mk ?a_z_on ?l_z_on ?c_z_on ?k_z_on) (K49.gd_mk ?a_z_many ?l_z_many ?c_z_many ?k_z_many) (K49.gd_mk ?a_z_rows ?l_z_rows ?c_z_rows ?k_z_rows) (K49.gd_mk ?a_z_column ?l_z_column ?c_z_column ?k_z_column) (K49.gd_mk ?a_z_folds ?l_z_folds ?c_z_folds ?k_z_folds) (K49.gd_mk ?a_z_fold ?l_z_fold ?c_z_fold ?k_z_fold) (K49.gd_mk ?a_z_split ?l_z_split ?c_z_split ?k_z_split) (K49.gd_mk ?a_z_named ?l_z_named ?c_z_named ?k_z_named) (K49.gd_mk ?a_z_naming ?l_z_naming ?c_z_naming ?k_z_naming) (K49.gd_mk ?a_z_part ?l_z_part ?c_z_part ?k_z_part) (K49.gd_mk ?a_z_splits ?l_z_splits ?c_z_splits ?k_z_splits) (K49.gd_mk ?a_z_rich ?l_z_rich ?c_z_rich ?k_z_rich) (K49.gd_mk ?a_z_table_made ?l_z_table_made ?c_z_table_made ?k_z_table_made) (K49.gd_mk ?a_z_least ?l_z_least ?c_z_least ?k_z_least) (K49.gd_mk ?a_z_same_reader ?l_z_same_reader ?c_z_same_reader ?k_z_same_reader) (K49.gd_mk ?a_z_by_arrows ?l_z_by_arrows ?c_z_by_arrows ?k_z_by_arrows) (K49.gd_mk ?a_z_join ?l_z_join ?c_z_join ?k_z_join) (K49.gd_mk ?a_z_fold_codes ?l_z_fold_codes ?c_z_fold_codes ?k_z_fold_codes) (K49.gd_mk ?a_z_split_codes ?l_z_split_codes ?c_z_split_codes ?k_z_split_codes) (K49.gd_mk ?a_z_named_codes ?l_z_named_codes ?c_z_named_codes ?k_z_named_codes) (K49.gd_mk ?a_z_code_step ?l_z_code_step ?c_z_code_step ?k_z_code_step) (K49.gd_mk ?a_z_code ?l_z_code ?c_z_code ?k_z_code) (K49.gd_mk ?a_z_blur ?l_z_blur ?c_z_blur ?k_z_blur) (K49.gd_mk ?a_z_reader ?l_z_reader ?c_z_reader ?k_z_reader) (K49.gd_mk ?a_z_made_reader ?l_z_made_reader ?c_z_made_reader ?k_z_made_reader) (K49.gd_mk ?a_z_tells_reader ?l_z_tells_reader ?c_z_tells_reader ?k_z_tells_reader) (K49.gd_mk ?a_z_wider ?l_z_wider ?c_z_wider ?k_z_wider) (K49.gd_mk ?a_z_reader_text ?l_z_reader_text ?c_z_reader_text ?k_z_reader_text) (K49.gd_mk ?a_law ?l_law ?c_law ?k_law)
    (case aW => k_is)
    (case aR => k_is)
    (case z_len => k_is)
    (case z_range => k_is)
    (case z_enumerate => k_is)
    (case z_sum => k_is)
    (case z_sorted => k_is)
    (case z_list => k_is)
    (case z_tuple => k_is)
    (case z_dict => k_is)
    (case z_set => k_is)
    (case z_zip => k_is)
    (case z_isinstance => k_is)
    (case z_int => k_is)
    (case z_str => k_is)
    (case z_bool => k_is)
    (case z_all => k_is)
    (case z_MOST_ROOMS => k_is)
    (case z_MOST_ARROWS => k_is)
    (case z_MOST_ROWS => k_is)
    (case z_MOST_WINDOW => k_is)
    (case z_MOST_LENGTH => k_is)
    (case z_MOST_FIGURES => k_is)
    (case z_FIGURES => k_is)
    (case pg_W => k_is)
    (case hd_W => k_is)
    (case po_W => k_is)
    (case sa_W => k_is)
    (case mk_W => k_is)
    (case kp_W => k_is)
    (case ha_W => k_is)
    (case hn_W => k_is)
    (case ht_W => k_is)
    (case hm_W => k_is)
    (case pg_R => k_is)
    (case hd_R => k_is)
    (case po_R => k_is)
    (case sa_R => k_is)
    (case mk_R => k_is)
    (case kp_R => k_is)
    (case ha_R => k_is)
    (case hn_R => k_is)
    (case ht_R => k_is)
    (case hm_R => k_is)
    (case nW_size => k_is)
    (case nW_pairs => k_is)
    (case nW_leaving => k_is)
    (case nW_coming => k_is)
    (case nR_source => k_is)
    (case nR_goal => k_is)
    (case nR_wide => k_is)
    (case nR_told => k_is)
    (case a_is_within => k_is)
    (case l_is_within => k_is)
    (case c_is_within => k_is)
    (case k_is_within => k_is)
    (case a_is_listed => k_is)
    (case l_is_listed => k_is)
    (case c_is_listed => k_is)
    (case k_is_listed => k_is)
    (case a_is_pair => k_is)
    (case l_is_pair => k_is)
    (case c_is_pair => k_is)
    (case k_is_pair => k_is)
    (case a_Web_init => k_is)
    (case i_Web_init => k_is)
    (case l_Web_init => k_is)
    (case c_Web_init => k_is)
    (case k_Web_init => k_is)
    (case a_Web_eq => k_is)
    (case o_Web_eq => k_is)
    (case e_Web_eq => k_is)
    (case n_Web_eq => k_is)
    (case l_Web_eq => k_is)
    (case c_Web_eq => k_is)
    (case k_Web_eq => k_is)
    (case a_Web_len => k_is)
    (case i_Web_len => k_is)
    (case l_Web_len => k_is)
    (case c_Web_len => k_is)
    (case k_Web_len => k_is)
    (case a_Web_rooms => k_is)
    (case i_Web_rooms => k_is)
    (case l_Web_rooms => k_is)
    (case c_Web_rooms => k_is)
    (case k_Web_rooms => k_is)
    (case a_Web_arrows => k_is)
    (case i_Web_arrows => k_is)
    (case l_Web_arrows => k_is)
    (case c_Web_arrows => k_is)
    (case k_Web_arrows => k_is)
    (case a_Web_has_arrow => k_is)
    (case i_Web_has_arrow => k_is)
    (case l_Web_has_arrow => k_is)
    (case c_Web_has_arrow => k_is)
    (case k_Web_has_arrow => k_is)
    (case a_Web_begin => k_is)
    (case i_Web_begin => k_is)
    (case l_Web_begin => k_is)
    (case c_Web_begin => k_is)
    (case k_Web_begin => k_is)
    (case a_Web_end => k_is)
    (case i_Web_end => k_is)
    (case l_Web_end => k_is)
    (case c_Web_end => k_is)
    (case k_Web_end => k_is)
    (case a_Web_on => k_is)
    (case i_Web_on => k_is)
    (case l_Web_on => k_is)
    (case c_Web_on => k_is)
    (case k_Web_on => k_is)
    (case a_Web_many => k_is)
    (case i_Web_many => k_is)
    (case l_Web_many => k_is)
    (case c_Web_many => k_is)
    (case k_Web_many => k_is)
    (case a_Web_rows => k_is)
    (case i_Web_rows => k_is)
    (case l_Web_rows => k_is)
    (case c_Web_rows => k_is)
    (case k_Web_rows => k_is)
    (case a_need_table => k_is)
    (case l_need_table => k_is)
    (case c_need_table => k_is)
    (case k_need_table => k_is)
    (case a_shorter => k_is)
    (case l_shorter => k_is)
    (case c_shorter => k_is)
    (case k_shorter => k_is)
    (case a_Reader_init => k_is)
    (case i_Reader_init => k_is)
    (case l_Reader_init => k_is)
    (case c_Reader_init => k_is)
    (case k_Reader_init => k_is)
    (case a_Reader_eq => k_is)
    (case o_Reader_eq => k_is)
    (case e_Reader_eq => k_is)
    (case n_Reader_eq => k_is)
    (case l_Reader_eq => k_is)
    (case c_Reader_eq => k_is)
    (case k_Reader_eq => k_is)
    (case a_Reader_web => k_is)
    (case i_Reader_web => k_is)
    (case l_Reader_web => k_is)
    (case c_Reader_web => k_is)
    (case k_Reader_web => k_is)
    (case a_Reader_other => k_is)
    (case i_Reader_other => k_is)
    (case l_Reader_other => k_is)
    (case c_Reader_other => k_is)
    (case k_Reader_other => k_is)
    (case a_Reader_window => k_is)
    (case i_Reader_window => k_is)
    (case l_Reader_window => k_is)
    (case c_Reader_window => k_is)
    (case k_Reader_window => k_is)
    (case a_Reader_table => k_is)
    (case i_Reader_table => k_is)
    (case l_Reader_table => k_is)
    (case c_Reader_table => k_is)
    (case k_Reader_table => k_is)
    (case a_Reader_least => k_is)
    (case i_Reader_least => k_is)
    (case l_Reader_least => k_is)
    (case c_Reader_least => k_is)
    (case k_Reader_least => k_is)
    (case a_number_in => k_is)
    (case l_number_in => k_is)
    (case c_number_in => k_is)
    (case k_number_in => k_is)
    (case a_head_window => k_is)
    (case l_head_window => k_is)
    (case c_head_window => k_is)
    (case k_head_window => k_is)
    (case a_arrows_of => k_is)
    (case l_arrows_of => k_is)
    (case c_arrows_of => k_is)
    (case k_arrows_of => k_is)
    (case a_rule_in => k_is)
    (case l_rule_in => k_is)
    (case c_rule_in => k_is)
    (case k_rule_in => k_is)
    (case a_compiled => k_is)
    (case l_compiled => k_is)
    (case c_compiled => k_is)
    (case k_compiled => k_is)
    (case a_reader_text => k_is)
    (case l_reader_text => k_is)
    (case c_reader_text => k_is)
    (case k_reader_text => k_is)
    (case a_z_bag => k_is)
    (case l_z_bag => k_is)
    (case c_z_bag => k_is)
    (case k_z_bag => k_is)
    (case a_z_pull => k_is)
    (case l_z_pull => k_is)
    (case c_z_pull => k_is)
    (case k_z_pull => k_is)
    (case a_z_of => k_is)
    (case l_z_of => k_is)
    (case c_z_of => k_is)
    (case k_z_of => k_is)
    (case a_z_same => k_is)
    (case l_z_same => k_is)
    (case c_z_same => k_is)
    (case k_z_same => k_is)
    (case a_z_mixed => k_is)
    (case l_z_mixed => k_is)
    (case c_z_mixed => k_is)
    (case k_z_mixed => k_is)
    (case a_z_web => k_is)
    (case l_z_web => k_is)
    (case c_z_web => k_is)
    (case k_z_web => k_is)
    (case a_z_made => k_is)
    (case l_z_made => k_is)
    (case c_z_made => k_is)
    (case k_z_made => k_is)
    (case a_z_tells => k_is)
    (case l_z_tells => k_is)
    (case c_z_tells => k_is)
    (case k_z_tells => k_is)
    (case a_z_outs => k_is)
    (case l_z_outs => k_is)
    (case c_z_outs => k_is)
    (case k_z_outs => k_is)
    (case a_z_ins => k_is)
    (case l_z_ins => k_is)
    (case c_z_ins => k_is)
    (case k_z_ins => k_is)
    (case a_z_on => k_is)
    (case l_z_on => k_is)
    (case c_z_on => k_is)
    (case k_z_on => k_is)
    (case a_z_many => k_is)
    (case l_z_many => k_is)
    (case c_z_many => k_is)
    (case k_z_many => k_is)
    (case a_z_rows => k_is)
    (case l_z_rows => k_is)
    (case c_z_rows => k_is)
    (case k_z_rows => k_is)
    (case a_z_column => k_is)
    (case l_z_column => k_is)
    (case c_z_column => k_is)
    (case k_z_column => k_is)
    (case a_z_folds => k_is)
    (case l_z_folds => k_is)
    (case c_z_folds => k_is)
    (case k_z_folds => k_is)
    (case a_z_fold => k_is)
    (case l_z_fold => k_is)
    (case c_z_fold => k_is)
    (case k_z_fold => k_is)
    (case a_z_split => k_is)
    (case l_z_split => k_is)
    (case c_z_split => k_is)
    (case k_z_split => k_is)
    (case a_z_named => k_is)
    (case l_z_named => k_is)
    (case c_z_named => k_is)
    (case k_z_named => k_is)
    (case a_z_naming => k_is)
    (case l_z_naming => k_is)
    (case c_z_naming => k_is)
    (case k_z_naming => k_is)
    (case a_z_part => k_is)
    (case l_z_part => k_is)
    (case c_z_part => k_is)
    (case k_z_part => k_is)
    (case a_z_splits => k_is)
    (case l_z_splits => k_is)
    (case c_z_splits => k_is)
    (case k_z_splits => k_is)
    (case a_z_rich => k_is)
    (case l_z_rich => k_is)
    (case c_z_rich => k_is)
    (case k_z_rich => k_is)
    (case a_z_table_made => k_is)
    (case l_z_table_made => k_is)
    (case c_z_table_made => k_is)
    (case k_z_table_made => k_is)
    (case a_z_least => k_is)
    (case l_z_least => k_is)
    (case c_z_least => k_is)
    (case k_z_least => k_is)
    (case a_z_same_reader => k_is)
    (case l_z_same_reader => k_is)
    (case c_z_same_reader => k_is)
    (case k_z_same_reader => k_is)
    (case a_z_by_arrows => k_is)
    (case l_z_by_arrows => k_is)
    (case c_z_by_arrows => k_is)
    (case k_z_by_arrows => k_is)
    (case a_z_join => k_is)
    (case l_z_join => k_is)
    (case c_z_join => k_is)
    (case k_z_join => k_is)
    (case a_z_fold_codes => k_is)
    (case l_z_fold_codes => k_is)
    (case c_z_fold_codes => k_is)
    (case k_z_fold_codes => k_is)
    (case a_z_split_codes => k_is)
    (case l_z_split_codes => k_is)
    (case c_z_split_codes => k_is)
    (case k_z_split_codes => k_is)
    (case a_z_named_codes => k_is)
    (case l_z_named_codes => k_is)
    (case c_z_named_codes => k_is)
    (case k_z_named_codes => k_is)
    (case a_z_code_step => k_is)
    (case l_z_code_step => k_is)
    (case c_z_code_step => k_is)
    (case k_z_code_step => k_is)
    (case a_z_code => k_is)
    (case l_z_code => k_is)
    (case c_z_code => k_is)
    (case k_z_code => k_is)
    (case a_z_blur => k_is)
    (case l_z_blur => k_is)
    (case c_z_blur => k_is)
    (case k_z_blur => k_is)
    (case a_z_reader => k_is)
    (case l_z_reader => k_is)
    (case c_z_reader => k_is)
    (case k_z_reader => k_is)
    (case a_z_made_reader => k_is)
    (case l_z_made_reader => k_is)
    (case c_z_made_reader => k_is)
    (case k_z_made_reader => k_is)
    (case a_z_tells_reader => k_is)
    (case l_z_tells_reader => k_is)
    (case c_z_tells_reader => k_is)
    (case k_z_tells_reader => k_is)
    (case a_z_wider => k_is)
    (case l_z_wider => k_is)
    (case c_z_wider => k_is)
    (case k_z_wider => k_is)
    (case a_z_reader_text => k_is)
    (case l_z_reader_text => k_is)
    (case c_z_reader_text => k_is)
    (case k_z_reader_text => k_is)
    (case a_law => k_is)
    (case l_law => k_is)
    (case c_law => k_is)
    (case k_law => k_is)
    (case x_Web_eq => kernel_rfl)
    (case x_Reader_eq => kernel_rfl)
