import PyProof.Rows.All
import Wide.All
import OpenK.AllK
import Wide.FinOn
import KE.KStateDown
import KE.GoesEnum
import KE.SortKeyHeap
import HandS.ForMost
import HandS.Walk
import HandS.Zip
import HandS.Style
import HandS.NoneIn
import HandS.Conv
import HandS.IsInst
import HandS.SortInts
import HandS.Lambda
import HandS.Nested
import HandS.NestedK
import HandS.Defaults
import HandS.Head0
import HandS.Head1
import HandS.Head2
import HandS.HeadHook1
import HandS.HeadHook2
import HandS.HeadHook3
import HandS.HeadHook4
import HandS.HeadWalk
import PySem.Challenge.RW_pagefall_k41_whole_stacks_and_orders
set_option Elab.async false
set_option linter.all false
set_option maxRecDepth 100000
/-! K41Math: the plain law. No program here. -/
namespace K41

/-! ### gaps -/
/-- the sum of the gaps from a block of margin a on: a, the margins behind it -/
def gp : Int → List Int → Int
  | a, [] => a
  | a, b :: l => max a b + gp b l
def mxr : List Int → Int
  | [] => 0
  | b :: l => max b (mxr l)
def Nn (l : List Int) : Prop := ∀ x ∈ l, 0 ≤ x
theorem Nn.head {a : Int} {l : List Int} (h : Nn (a :: l)) : 0 ≤ a := h a (List.mem_cons_self ..)
theorem Nn.tail {a : Int} {l : List Int} (h : Nn (a :: l)) : Nn l := fun x hx => h x (List.mem_cons_of_mem _ hx)
theorem Nn.perm {l m : List Int} (h : Nn l) (p : m.Perm l) : Nn m := fun x hx => h x (p.mem_iff.mp hx)
theorem mxr_nn {l : List Int} : 0 ≤ mxr l := by
  induction l with
  | nil => exact Int.le_refl 0
  | cons b l ih => simp only [mxr]; omega
theorem mxr_ge {l : List Int} {x : Int} (h : x ∈ l) : x ≤ mxr l := by
  induction l with
  | nil => cases h
  | cons b l ih =>
    simp only [mxr]
    rcases List.mem_cons.mp h with rfl | h
    · omega
    · have := ih h; omega
theorem mxr_mem {l : List Int} (hn : l ≠ []) (h : Nn l) : mxr l ∈ l := by
  induction l with
  | nil => exact absurd rfl hn
  | cons b l ih =>
    simp only [mxr]
    by_cases hl : l = []
    · subst hl
      have := h.head
      have e : max b (mxr []) = b := by simp only [mxr]; omega
      rw [e]; exact List.mem_cons_self ..
    · have hm := ih hl h.tail
      by_cases hb : mxr l ≤ b
      · rw [show max b (mxr l) = b by omega]; exact List.mem_cons_self ..
      · rw [show max b (mxr l) = mxr l by omega]; exact List.mem_cons_of_mem _ hm
/-- the greatest of a list is told by two facts -/
theorem mxr_eq {l : List Int} {m : Int} (h : Nn l) (hm : m ∈ l) (hg : ∀ x ∈ l, x ≤ m) : m = mxr l := by
  have h1 := mxr_ge hm
  have h2 := hg _ (mxr_mem (by intro e; rw [e] at hm; cases hm) h)
  omega
theorem sum_cons' (a : Int) (l : List Int) : (a :: l).sum = a + l.sum := List.sum_cons
theorem perm_sum {l m : List Int} (p : l.Perm m) : l.sum = m.sum := by
  induction p with
  | nil => rfl
  | cons x _ ih => rw [sum_cons', sum_cons', ih]
  | swap x y l => simp only [sum_cons']; omega
  | trans _ _ h1 h2 => exact h1.trans h2
theorem perm_mxr {l m : List Int} (p : l.Perm m) : mxr l = mxr m := by
  induction p with
  | nil => rfl
  | cons x _ ih => simp only [mxr, ih]
  | swap x y l => simp only [mxr]; omega
  | trans _ _ h1 h2 => exact h1.trans h2

/-! ### the least sum -/
theorem gp_ge : ∀ (l : List Int) (a : Int), 0 ≤ a → Nn l → l.sum + max a (mxr l) ≤ gp a l
  | [], a, ha, _ => by simp only [gp, mxr, List.sum_nil]; omega
  | b :: l, a, ha, h => by
    have ih := gp_ge l b h.head h.tail
    have hb := h.head
    simp only [gp, mxr, sum_cons']
    omega
/-- never rising behind a block (the law's flag is set) or not yet so -/
def hillB : Bool → Int → List Int → Bool
  | _, _, [] => true
  | d, a, b :: l => if (d && decide (b > a)) = true then false else hillB (d || decide (b < a)) b l
def isHill : List Int → Bool
  | [] => true
  | a :: l => hillB false a l
theorem hill_down : ∀ (l : List Int) (a : Int), 0 ≤ a → Nn l → hillB true a l = true → mxr l ≤ a
  | [], a, ha, _, _ => ha
  | b :: l, a, ha, h, e => by
    simp only [hillB, Bool.true_and, Bool.true_or] at e
    by_cases hb : b > a
    · rw [if_pos (decide_eq_true hb)] at e; cases e
    · rw [if_neg (by rw [decide_eq_false hb]; exact Bool.false_ne_true)] at e
      have := hill_down l b h.head h.tail e
      simp only [mxr]; omega
theorem hill_flat : ∀ (l : List Int) (a : Int), Nn l → mxr l ≤ a → hillB false a l = hillB true a l
  | [], _, _, _ => rfl
  | b :: l, a, h, e => by
    simp only [mxr] at e
    have hb : ¬ b > a := by omega
    simp only [hillB, Bool.false_and, Bool.true_and, Bool.false_or, Bool.true_or]
    rw [if_neg Bool.false_ne_true, if_neg (by rw [decide_eq_false hb]; exact Bool.false_ne_true)]
    by_cases hl : b < a
    · rw [decide_eq_true hl]
    · rw [decide_eq_false hl]
      exact hill_flat l b h.tail (by omega)
theorem hill_iff : ∀ (l : List Int) (a : Int), 0 ≤ a → Nn l → (hillB false a l = true ↔ gp a l = l.sum + max a (mxr l))
  | [], a, ha, _ => by
    simp only [hillB, gp, mxr, List.sum_nil, true_iff]; omega
  | b :: l, a, ha, h => by
    have hb0 := h.head
    have hm := @mxr_nn l
    have ih := hill_iff l b hb0 h.tail
    have ge := gp_ge l b hb0 h.tail
    simp only [hillB, Bool.false_and, Bool.false_or, gp, mxr, sum_cons']
    rw [if_neg Bool.false_ne_true]
    by_cases hl : b < a
    · rw [decide_eq_true hl]
      constructor
      · intro e
        have h1 := hill_down l b hb0 h.tail e
        rw [← hill_flat l b h.tail h1] at e
        have := ih.mp e
        omega
      · intro e
        have h1 : mxr l ≤ b := by omega
        rw [← hill_flat l b h.tail h1]
        exact ih.mpr (by omega)
    · rw [decide_eq_false hl]
      constructor
      · intro e
        have := ih.mp e
        omega
      · intro e
        exact ih.mpr (by omega)
/-- the least sum -/
def lst (l : List Int) : Int := l.sum + mxr l
theorem gap_ge {l : List Int} (h : Nn l) : lst l ≤ gp 0 l := by
  have := gp_ge l 0 (Int.le_refl 0) h
  have := @mxr_nn l
  unfold lst; omega
theorem isHill_iff {l : List Int} (h : Nn l) : isHill l = true ↔ gp 0 l = lst l := by
  cases l with
  | nil => simp [isHill, gp, lst, mxr]
  | cons a l =>
    have ha := h.head
    have hm := @mxr_nn l
    have := hill_iff l a ha h.tail
    simp only [isHill, gp, lst, mxr, sum_cons']
    rw [this]
    constructor <;> intro e <;> omega
theorem isHill_dec {l : List Int} (h : Nn l) : isHill l = decide (gp 0 l = lst l) := by
  by_cases e : gp 0 l = lst l
  · rw [decide_eq_true e, (isHill_iff h).mpr e]
  · rw [decide_eq_false e]
    cases q : isHill l with
    | false => rfl
    | true => exact absurd ((isHill_iff h).mp q) e
/-- an order that rises is a hill -/
theorem hill_up : ∀ (l : List Int) (a : Int), (a :: l).Pairwise (· ≤ ·) → hillB false a l = true
  | [], _, _ => rfl
  | b :: l, a, h => by
    have hab : a ≤ b := (List.pairwise_cons.mp h).1 b (List.mem_cons_self ..)
    simp only [hillB, Bool.false_and, Bool.false_or]
    rw [if_neg Bool.false_ne_true, decide_eq_false (by omega)]
    exact hill_up l b (List.pairwise_cons.mp h).2
theorem isHill_up {l : List Int} (h : l.Pairwise (· ≤ ·)) : isHill l = true := by
  cases l with
  | nil => rfl
  | cons a l => exact hill_up l a h
theorem lst_perm {l m : List Int} (p : l.Perm m) : lst l = lst m := by
  unfold lst; rw [perm_sum p, perm_mxr p]

/-! ### the greatest sum -/
/-- n times t -/
def rep : Nat → Int → Int
  | 0, _ => 0
  | n + 1, t => rep n t + t
theorem rep_add (t : Int) : ∀ n m : Nat, rep (n + m) t = rep n t + rep m t
  | n, 0 => by simp [rep]
  | n, m + 1 => by
    have := rep_add t n m
    show rep (n + m) t + t = rep n t + (rep m t + t)
    omega
/-- what margins have above t -/
def exc (t : Int) : List Int → Int
  | [] => 0
  | b :: l => max (b - t) 0 + exc t l
theorem exc_perm {t : Int} {l m : List Int} (p : l.Perm m) : exc t l = exc t m := by
  induction p with
  | nil => rfl
  | cons x _ ih => simp only [exc, ih]
  | swap x y l => simp only [exc]; omega
  | trans _ _ h1 h2 => exact h1.trans h2
theorem exc_app (t : Int) : ∀ l m : List Int, exc t (l ++ m) = exc t l + exc t m
  | [], m => by simp [exc]
  | b :: l, m => by
    have := exc_app t l m
    simp only [List.cons_append, exc]; omega
theorem exc_hi {t : Int} : ∀ l : List Int, (∀ x ∈ l, t ≤ x) → exc t l = l.sum - rep l.length t
  | [], _ => by simp [exc, rep]
  | b :: l, h => by
    have h1 := h b (List.mem_cons_self ..)
    have ih := exc_hi l fun x hx => h x (List.mem_cons_of_mem _ hx)
    simp only [exc, sum_cons', List.length_cons, rep]; omega
theorem exc_lo {t : Int} : ∀ l : List Int, (∀ x ∈ l, x ≤ t) → exc t l = 0
  | [], _ => rfl
  | b :: l, h => by
    have h1 := h b (List.mem_cons_self ..)
    have ih := exc_lo l fun x hx => h x (List.mem_cons_of_mem _ hx)
    simp only [exc]; omega
theorem gp_le {t : Int} (ht : 0 ≤ t) : ∀ (l : List Int) (a : Int), gp a l ≤ rep (l.length + 1) t + 2 * exc t l + max (a - t) 0
  | [], a => by simp only [gp, exc, rep, List.length_nil]; omega
  | b :: l, a => by
    have ih := gp_le ht l b
    simp only [gp, exc, List.length_cons]
    have e : rep (l.length + 1 + 1) t = rep (l.length + 1) t + t := rfl
    omega
/-- the sum by halves of a falling row -/
def mst (row : List Int) : Int :=
  if row.length % 2 = 1 then 2 * (row.take ((row.length + 1) / 2)).sum
  else 2 * (row.take ((row.length + 1) / 2)).sum + ((row.drop ((row.length + 1) / 2)).take 1).sum
theorem gap_le {l row : List Int} (hn : Nn l) (p : row.Perm l) (hd : row.Pairwise (· ≥ ·)) : gp 0 l ≤ mst row := by
  have hnr : Nn row := hn.perm p
  have hlen : row.length = l.length := p.length_eq
  -- the threshold
  have key : ∀ t : Int, 0 ≤ t → gp 0 l ≤ rep (l.length + 1) t + 2 * exc t row := fun t ht => by
    have h1 := gp_le ht l 0
    rw [exc_perm p]
    omega
  have split : ∀ t : Int, ∀ h : Nat, (∀ x ∈ row.take h, t ≤ x) → (∀ x ∈ row.drop h, x ≤ t) → exc t row = (row.take h).sum - rep (row.take h).length t := fun t h h1 h2 => by
    have e : exc t row = exc t (row.take h ++ row.drop h) := by rw [List.take_append_drop]
    rw [e, exc_app, exc_hi _ h1, exc_lo _ h2]
    omega
  have pw : ∀ i j : Nat, ∀ x y : Int, i ≤ j → row[i]? = some x → row[j]? = some y → y ≤ x := fun i j x y hij hx hy => by
    obtain ⟨hi, ex⟩ := List.getElem?_eq_some_iff.mp hx
    obtain ⟨hj, ey⟩ := List.getElem?_eq_some_iff.mp hy
    rcases Nat.lt_or_eq_of_le hij with h | h
    · have := List.pairwise_iff_getElem.mp hd i j hi hj h
      rw [← ex, ← ey]; exact this
    · subst h
      rw [hx] at hy
      cases hy
      exact Int.le_refl _
  unfold mst
  by_cases ho : row.length % 2 = 1
  · rw [if_pos ho]
    generalize hh : (row.length + 1) / 2 = h
    have h0 : h - 1 < row.length := by omega
    have ht0 : row[h - 1]? = some row[h - 1] := List.getElem?_eq_getElem h0
    have e := split row[h - 1] h (fun x hx => by
      obtain ⟨i, hi, e⟩ := List.mem_iff_getElem.mp hx
      rw [List.length_take] at hi
      rw [List.getElem_take] at e
      exact pw i (h - 1) x _ (by omega) (by rw [← e]; exact List.getElem?_eq_getElem (by omega)) ht0) (fun x hx => by
      obtain ⟨i, hi, e⟩ := List.mem_iff_getElem.mp hx
      rw [List.length_drop] at hi
      rw [List.getElem_drop] at e
      exact pw (h - 1) (h + i) _ x (by omega) ht0 (by rw [← e]; exact List.getElem?_eq_getElem (by omega)))
    have k := key row[h - 1] (hnr _ (List.getElem_mem h0))
    rw [e, List.length_take] at k
    have e2 : l.length + 1 = h + h := by omega
    have e3 : min h row.length = h := by omega
    rw [e2, rep_add, e3] at k
    omega
  · rw [if_neg ho]
    generalize hh : (row.length + 1) / 2 = h
    by_cases hz : h < row.length
    · have ht0 : row[h]? = some row[h] := List.getElem?_eq_getElem hz
      have e := split row[h] h (fun x hx => by
        obtain ⟨i, hi, e⟩ := List.mem_iff_getElem.mp hx
        rw [List.length_take] at hi
        rw [List.getElem_take] at e
        exact pw i h x _ (by omega) (by rw [← e]; exact List.getElem?_eq_getElem (by omega)) ht0) (fun x hx => by
        obtain ⟨i, hi, e⟩ := List.mem_iff_getElem.mp hx
        rw [List.length_drop] at hi
        rw [List.getElem_drop] at e
        exact pw h (h + i) _ x (by omega) ht0 (by rw [← e]; exact List.getElem?_eq_getElem (by omega)))
      have k := key row[h] (hnr _ (List.getElem_mem hz))
      rw [e, List.length_take] at k
      have e2 : l.length + 1 = h + h + 1 := by omega
      have e3 : min h row.length = h := by omega
      have e4 : ((row.drop h).take 1).sum = row[h] := by
        rw [List.drop_eq_getElem_cons hz, List.take_succ_cons, List.take_zero, sum_cons', List.sum_nil, Int.add_zero]
      rw [e2, e3] at k
      have e5 : rep (h + h + 1) row[h] = rep h row[h] + rep h row[h] + row[h] := by
        show rep (h + h) row[h] + row[h] = _
        rw [rep_add]
      rw [e4]
      omega
    · have hl0 : l = [] := List.eq_nil_of_length_eq_zero (by omega)
      have hr0 : row = [] := List.eq_nil_of_length_eq_zero (by omega)
      subst hl0 hr0
      simp [gp]
/-- great ones with small ones between -/
def interl {α : Type} : List α → List α → List α
  | [], _ => []
  | x :: g, s => x :: (s.take 1 ++ interl g (s.drop 1))
theorem interl_map {α β : Type} (f : α → β) : ∀ g s : List α, (interl g s).map f = interl (g.map f) (s.map f)
  | [], _ => rfl
  | x :: g, s => by
    have ih := interl_map f g (s.drop 1)
    simp only [interl, List.map_cons, List.map_append, ih, List.map_take, List.map_drop]
theorem interl_perm {α : Type} : ∀ g s : List α, s.length ≤ g.length → (interl g s).Perm (g ++ s)
  | [], s, h => by
    have e : s = [] := List.eq_nil_of_length_eq_zero (by simpa using h)
    subst e
    exact List.Perm.refl _
  | x :: g, s, h => by
    have ih := interl_perm g (s.drop 1) (by rw [List.length_drop]; simp only [List.length_cons] at h; omega)
    simp only [interl, List.cons_append]
    refine List.Perm.cons x ?_
    refine (List.Perm.append_left (s.take 1) ih).trans ?_
    refine (List.perm_append_comm_assoc (s.take 1) g (s.drop 1)).trans ?_
    rw [List.take_append_drop]
theorem interl_len {α : Type} : ∀ g s : List α, (interl g s).length ≤ g.length + s.length
  | [], s => by simp [interl]
  | x :: g, s => by
    have ih := interl_len g (s.drop 1)
    simp only [interl, List.length_cons, List.length_append, List.length_take]
    rw [List.length_drop] at ih
    omega
theorem interl_odd : ∀ (g s : List Int) (a : Int), s.length + 1 = g.length → (∀ x ∈ g, a ≤ x) → (∀ x ∈ g, ∀ y ∈ s, y ≤ x) → gp a (interl g s) = 2 * g.sum
  | [], s, a, h, _, _ => by simp at h
  | [x], s, a, h, ha, _ => by
    have e : s = [] := List.eq_nil_of_length_eq_zero (by simpa using h)
    subst e
    have := ha x (List.mem_cons_self ..)
    simp only [interl, List.take_nil, List.nil_append, gp, sum_cons', List.sum_nil]; omega
  | x :: x' :: g, [], a, h, _, _ => by simp at h
  | x :: x' :: g, y :: s, a, h, ha, hs => by
    have ih := interl_odd (x' :: g) s y (by simpa using h) (fun z hz => hs z (List.mem_cons_of_mem _ hz) y (List.mem_cons_self ..)) fun z hz w hw => hs z (List.mem_cons_of_mem _ hz) w (List.mem_cons_of_mem _ hw)
    have h1 := ha x (List.mem_cons_self ..)
    have h2 := hs x (List.mem_cons_self ..) y (List.mem_cons_self ..)
    have e : interl (x :: x' :: g) (y :: s) = x :: y :: interl (x' :: g) s := by simp [interl]
    rw [e]
    simp only [gp]
    rw [ih, sum_cons' x]
    omega
theorem interl_even : ∀ (g s : List Int) (a : Int), s.length = g.length → (∀ x ∈ g, a ≤ x) → (∀ x ∈ g, ∀ y ∈ s, y ≤ x) → gp a (interl g s) = 2 * g.sum + (s.getLast?).getD a
  | [], s, a, h, _, _ => by
    have e : s = [] := List.eq_nil_of_length_eq_zero (by simpa using h)
    subst e
    simp [interl, gp]
  | x :: g, [], a, h, _, _ => by simp at h
  | x :: g, y :: s, a, h, ha, hs => by
    have ih := interl_even g s y (by simpa using h) (fun z hz => hs z (List.mem_cons_of_mem _ hz) y (List.mem_cons_self ..)) fun z hz w hw => hs z (List.mem_cons_of_mem _ hz) w (List.mem_cons_of_mem _ hw)
    have h1 := ha x (List.mem_cons_self ..)
    have h2 := hs x (List.mem_cons_self ..) y (List.mem_cons_self ..)
    have e : interl (x :: g) (y :: s) = x :: y :: interl g s := by simp [interl]
    have e2 : ((y :: s).getLast?).getD a = (s.getLast?).getD y := by rw [List.getLast?_cons]; rfl
    rw [e, e2]
    simp only [gp]
    rw [ih, sum_cons' x]
    omega
/-- the great half with the small half, the smallest first, between: the greatest sum -/
def gro {α : Type} (o : List α) : List α := interl (o.take ((o.length + 1) / 2)) (o.drop ((o.length + 1) / 2)).reverse
theorem gro_map {α β : Type} (f : α → β) (o : List α) : (gro o).map f = gro (o.map f) := by
  unfold gro
  rw [interl_map, List.map_take, List.map_reverse, List.map_drop, List.length_map]
theorem gro_perm {α : Type} (o : List α) : (gro o).Perm o := by
  unfold gro
  refine (interl_perm _ _ ?_).trans ?_
  · rw [List.length_reverse, List.length_drop, List.length_take]; omega
  · refine (List.Perm.append_left _ (List.reverse_perm _)).trans ?_
    rw [List.take_append_drop]
theorem gro_gap {row : List Int} (hn : Nn row) (hd : row.Pairwise (· ≥ ·)) : gp 0 (gro row) = mst row := by
  have hs : ∀ x ∈ row.take ((row.length + 1) / 2), ∀ y ∈ (row.drop ((row.length + 1) / 2)).reverse, y ≤ x := fun x hx y hy => by
    rw [List.mem_reverse] at hy
    have e := hd
    rw [← List.take_append_drop ((row.length + 1) / 2) row] at e
    exact (List.pairwise_append.mp e).2.2 x hx y hy
  have h0 : ∀ x ∈ row.take ((row.length + 1) / 2), (0 : Int) ≤ x := fun x hx => hn x (List.mem_of_mem_take hx)
  unfold gro mst
  by_cases ho : row.length % 2 = 1
  · rw [if_pos ho]
    exact interl_odd _ _ 0 (by rw [List.length_reverse, List.length_drop, List.length_take]; omega) h0 hs
  · rw [if_neg ho, interl_even _ _ 0 (by rw [List.length_reverse, List.length_drop, List.length_take]; omega) h0 hs]
    congr 1
    rw [List.getLast?_reverse]
    cases row.drop ((row.length + 1) / 2) with
    | nil => rfl
    | cons a l => simp

/-! ### all orders -/
def ins {α : Type} (x : α) (l : List α) : List (List α) := (List.range (l.length + 1)).map fun k => l.take k ++ [x] ++ l.drop k
def ords {α : Type} : List α → List (List α) → List (List α)
  | [], F => F
  | x :: xs, F => ords xs (F.flatMap (ins x))
theorem ins_perm {α : Type} {x : α} {l p : List α} (h : p ∈ ins x l) : p.Perm (x :: l) := by
  obtain ⟨k, _, rfl⟩ := List.mem_map.mp h
  have e : x :: l = x :: (l.take k ++ l.drop k) := by rw [List.take_append_drop]
  rw [e, List.append_assoc, List.singleton_append]
  exact List.perm_middle
theorem ins_all {α : Type} {x : α} {s t : List α} : s ++ x :: t ∈ ins x (s ++ t) := by
  refine List.mem_map.mpr ⟨s.length, List.mem_range.mpr (by rw [List.length_append]; omega), ?_⟩
  simp
theorem ords_iff {α : Type} : ∀ (xs D : List α) (F : List (List α)), (∀ p, p ∈ F ↔ p.Perm D) → ∀ p, p ∈ ords xs F ↔ p.Perm (D ++ xs)
  | [], D, F, h, p => by rw [List.append_nil]; exact h p
  | x :: xs, D, F, h, p => by
    have ih := ords_iff xs (D ++ [x]) (F.flatMap (ins x)) (fun p => ?_) p
    · rw [List.append_assoc, List.singleton_append] at ih
      exact ih
    · have ex : (x :: D).Perm (D ++ [x]) := (List.perm_append_singleton x D).symm
      constructor
      · intro hp
        obtain ⟨l, hl, hp⟩ := List.mem_flatMap.mp hp
        exact (ins_perm hp).trans ((List.Perm.cons x ((h l).mp hl)).trans ex)
      · intro hp
        have hx : x ∈ p := hp.mem_iff.mpr (by simp)
        obtain ⟨s, t, rfl⟩ := List.append_of_mem hx
        have h2 : (x :: (s ++ t)).Perm (x :: D) := List.perm_middle.symm.trans (hp.trans ex.symm)
        exact List.mem_flatMap.mpr ⟨s ++ t, (h _).mpr (List.perm_cons x |>.mp h2), ins_all⟩
theorem ords_mem {α : Type} {xs p : List α} : p ∈ ords xs [[]] ↔ p.Perm xs := by
  have := ords_iff xs [] [[]] (fun p => by simp) p
  simpa using this
theorem flat_len {α β : Type} {f : α → List β} {c : Nat} : ∀ {F : List α}, (∀ l ∈ F, (f l).length ≤ c) → (F.flatMap f).length ≤ F.length * c
  | [], _ => by simp
  | l :: F, h => by
    have ih := flat_len (F := F) fun l hl => h l (List.mem_cons_of_mem _ hl)
    have := h l (List.mem_cons_self ..)
    rw [List.flatMap_cons, List.length_append, List.length_cons, Nat.add_mul]
    omega
theorem ins_len {α : Type} (x : α) (l : List α) : (ins x l).length = l.length + 1 := by unfold ins; rw [List.length_map, List.length_range]
theorem ords_len {α : Type} : ∀ (xs : List α) (F : List (List α)) (d : Nat), (∀ l ∈ F, l.length = d) → d + xs.length ≤ 6 → (ords xs F).length ≤ F.length * 7 ^ xs.length
  | [], F, d, _, _ => by simp [ords]
  | x :: xs, F, d, h, hd => by
    simp only [List.length_cons] at hd
    have h1 : (F.flatMap (ins x)).length ≤ F.length * 7 := flat_len fun l hl => by rw [ins_len, h l hl]; omega
    have ih := ords_len xs (F.flatMap (ins x)) (d + 1) (fun l hl => by
      obtain ⟨m, hm, hl⟩ := List.mem_flatMap.mp hl
      rw [(ins_perm hl).length_eq, List.length_cons, h m hm]) (by omega)
    show (ords xs (F.flatMap (ins x))).length ≤ F.length * 7 ^ (xs.length + 1)
    refine Nat.le_trans ih ?_
    rw [Nat.pow_succ, Nat.mul_comm (7 ^ xs.length) 7, ← Nat.mul_assoc]
    exact Nat.mul_le_mul_right _ h1
/-- an order of the images comes from an order of the things -/
theorem perm_map {α β : Type} {f : α → β} {ys zs : List β} (p : ys.Perm zs) : ∀ {xs : List α}, zs = xs.map f → ∃ ws : List α, ws.Perm xs ∧ ws.map f = ys := by
  induction p with
  | nil => intro xs e; exact ⟨xs, .refl _, e.symm⟩
  | @cons y l m _ ih =>
    intro xs e
    cases xs with
    | nil => cases e
    | cons x xs =>
      rw [List.map_cons] at e
      injection e with e1 e2
      obtain ⟨ws, h1, h2⟩ := ih e2
      exact ⟨x :: ws, h1.cons x, by rw [List.map_cons, h2, e1]⟩
  | swap a b l =>
    intro xs e
    match xs, e with
    | x :: x' :: xs, e =>
      simp only [List.map_cons, List.cons.injEq] at e
      obtain ⟨e1, e2, e3⟩ := e
      exact ⟨x' :: x :: xs, List.Perm.swap .., by simp [e1, e2, e3]⟩
  | trans _ _ h1 h2 =>
    intro xs e
    obtain ⟨ws, a1, a2⟩ := h2 e
    obtain ⟨us, b1, b2⟩ := h1 a2.symm
    exact ⟨us, b1.trans a1, b2⟩

/-! ### stacks -/
abbrev Row := Int × Int × Int
def stk : Int → Int → List Row → List Int
  | _, _, [] => []
  | f, a, x :: r => (f + max a x.1) :: stk (f + max a x.1 + x.2.1) x.2.2 r
def stkF : Int → Int → List Row → Int
  | f, _, [] => f
  | f, a, x :: r => stkF (f + max a x.1 + x.2.1) x.2.2 r
def stkA : Int → List Row → Int
  | a, [] => a
  | _, x :: r => stkA x.2.2 r
/-- the whole height -/
def stkE (f a : Int) (r : List Row) : Int := stkF f a r + stkA a r
theorem stk_len : ∀ (r : List Row) (f a : Int), (stk f a r).length = r.length
  | [], _, _ => rfl
  | x :: r, f, a => by simp only [stk, List.length_cons, stk_len r]
theorem stk_app : ∀ (r q : List Row) (f a : Int), stk f a (r ++ q) = stk f a r ++ stk (stkF f a r) (stkA a r) q
  | [], q, f, a => rfl
  | x :: r, q, f, a => by
    simp only [List.cons_append, stk, stkF, stkA, stk_app r q]
theorem stkF_app : ∀ (r q : List Row) (f a : Int), stkF f a (r ++ q) = stkF (stkF f a r) (stkA a r) q
  | [], q, f, a => rfl
  | x :: r, q, f, a => by simp only [List.cons_append, stkF, stkA, stkF_app r q]
theorem stkA_app : ∀ (r q : List Row) (a : Int), stkA a (r ++ q) = stkA (stkA a r) q
  | [], q, a => rfl
  | x :: r, q, a => by simp only [List.cons_append, stkA, stkA_app r q]
theorem stk_shift (d : Int) : ∀ (r : List Row) (f a : Int), stk (f + d) a r = (stk f a r).map (· + d)
  | [], _, _ => rfl
  | x :: r, f, a => by
    have e1 : f + d + max a x.1 = f + max a x.1 + d := by omega
    have e2 : f + d + max a x.1 + x.2.1 = f + max a x.1 + x.2.1 + d := by omega
    simp only [stk, List.map_cons]
    rw [e2, stk_shift d r, e1]
theorem stkF_shift (d : Int) : ∀ (r : List Row) (f a : Int), stkF (f + d) a r = stkF f a r + d
  | [], _, _ => rfl
  | x :: r, f, a => by
    have e2 : f + d + max a x.1 + x.2.1 = f + max a x.1 + x.2.1 + d := by omega
    simp only [stkF]
    rw [e2, stkF_shift d r]
/-- what follows a block moves by one number -/
theorem moved {r : List Row} (hr : r ≠ []) (f1 a1 f2 a2 : Int) : ∃ d, stk f2 a2 r = (stk f1 a1 r).map (· + d) ∧ stkE f2 a2 r = stkE f1 a1 r + d := by
  cases r with
  | nil => exact absurd rfl hr
  | cons x r =>
    refine ⟨f2 + max a2 x.1 - (f1 + max a1 x.1), ?_, ?_⟩
    · have e1 : f2 + max a2 x.1 + x.2.1 = (f1 + max a1 x.1 + x.2.1) + (f2 + max a2 x.1 - (f1 + max a1 x.1)) := by omega
      simp only [stk, List.map_cons]
      rw [e1, stk_shift]
      congr 1
      omega
    · have e1 : f2 + max a2 x.1 + x.2.1 = (f1 + max a1 x.1 + x.2.1) + (f2 + max a2 x.1 - (f1 + max a1 x.1)) := by omega
      simp only [stkE, stkF, stkA]
      rw [e1, stkF_shift]
      omega
end K41

set_option maxHeartbeats 2000000
/-! K41Kit: rules of one's own: one of two readings; enumerate over a tuple; heaps. -/
namespace K41
open PySem PySem.Spec PyProof.Rows L2
/-! ### one of two readings -/
section
variable {X : Cx}
theorem pi_or {tg it : Expr} {w1 w2 : TI} (h1 : PI X tg it w1) (h2 : PI X tg it w2) : PI X tg it (fun σ H R => w1 σ H R ∨ w2 σ H R) :=
  ⟨fun pins s σ H R I h => h.elim (h1.run pins s σ H R I) (h2.run pins s σ H R I)⟩
theorem pg_or {tg : Expr} {g1 g2 : TG} (h1 : PG X tg g1) (h2 : PG X tg g2) : PG X tg (fun v σ H Q => g1 v σ H Q ∨ g2 v σ H Q) :=
  ⟨fun pins s σ H v u Q I r h => h.elim (h1.run pins s σ H v u Q I r) (h2.run pins s σ H v u Q I r)⟩
end
/-! ### enumerate over a tuple -/
def IteT (K : PySem.W.Frag) (a : Addr) : It :=
  ⟨fun i H => ∃ (xs : List V) (x : V), SqT K H a xs ∧ xs[i]? = some x, fun i H v H' => ∃ T x, v = .ref T ∧ H T = none ∧ H' = upd H T (.tup [.int (i : Nat), x]) ∧ ∀ xs, SqT K H a xs → xs[i]? = some x, fun i H => ∃ xs : List V, SqT K H a xs ∧ xs.length ≤ i⟩
theorem turn_enumT {P : Program} {w : World} {K : PySem.W.Frag} {elts : List Expr} {kk : Nat} {tpos : Pos} (a e it : Addr) :
    Turn P w K (.Tuple elts kk tpos) (IteT K a) [e, it] e (fun i h => (∃ old, IsEnum h e it ((i : Nat) : Int) old) ∧ h.IsTupleIter it a i ∧ e ≠ it) where
  mem := by simp
  obj := fun i h st b hb => by
    obtain ⟨⟨old, he⟩, ⟨o, ho, hc, hd⟩, _⟩ := st
    have e' : b = e ∨ b = it := by simpa using hb
    rcases e' with z | z
    · rw [z]; exact ⟨_, he, fun v q => nomatch q⟩
    · rw [z]; exact ⟨o, ho, fun v q => by rw [hd] at q; cases q⟩
  keep := fun i h h' st k => let ⟨⟨old, he⟩, hi, hne⟩ := st; ⟨⟨old, k e (by simp) _ he⟩, hi.at fun o q => k it (by simp) o q, hne⟩
  item := by
    intro X hP hw hK hc i pins s σ H E I hf st hg
    subst hP hw hK
    obtain ⟨⟨old, he⟩, hit, hne⟩ := st
    obtain ⟨xs, x, hq, hx⟩ := hg
    obtain ⟨its, rv, p, hz⟩ := I.tuple hq
    obtain ⟨u, hu, ru⟩ := rv.get hx
    have hel : e < s.heap.objs.size := Heap.lt_size he
    have hil : it < s.heap.objs.size := by obtain ⟨_, q, _⟩ := hit; exact Heap.lt_size q
    have hit0 := (hf it (by simp)).1
    have nai : a ≠ it := fun z => by
      obtain ⟨o, q, qc, _⟩ := hit
      obtain ⟨o', q', qc', _⟩ := p
      rw [z, q] at q'
      cases q'
      rw [qc] at qc'
      exact absurd qc' (by decide)
    have nae : a ≠ e := fun z => by
      obtain ⟨o', q', qc', _⟩ := p
      rw [z, he] at q'
      cases q'
      exact absurd qc' (show ¬ Value.type "enumerate" = .type "tuple" by decide)
    have D := Draws.tuple (prog := X.prog) (w := X.w) (A := X.A.in1) (I.ok.hd hc) it a nai its.toArray
    have hlt : i < its.toArray.size := by
      have := (List.getElem?_eq_some_iff.mp hu).1
      simpa using this
    refine wpAny_pyNext_enum_itemD D he ⟨hit, (show s.heap.IsTuple a its.toArray from p)⟩ hlt hne (by simp [hne, Ne.symm nae]) fun y h' tk hy ho hst hT hsz hk => ?_
    obtain rfl : y = u := by
      have e1 : its.toArray[i]? = some u := by simpa using hu
      rw [e1] at hy
      exact (Option.some.inj hy).symm
    refine ⟨_, rfl, wpAny_letOwnedTupleGo_enum (s := { s with heap := h', toks := tk + 1 }) ho fun h'' he' sb => ?_⟩
    have hT2 : h''.get? s.heap.objs.size = some { cls := .type "tuple", data := .seq #[.int i tk, y] } := (sb.2 _ (Nat.ne_of_gt hel)).trans hT
    have new : ObjOk X.prog X.w (upd H s.heap.objs.size (.tup [.int (i : Nat), x])) h'' s.heap.objs.size (.tup [.int (i : Nat), x]) :=
      ⟨by show 2 ≤ sizeLine; decide, [.int i tk, y], .cons ⟨_, rfl⟩ (.cons ru .nil), ⟨_, hT2, rfl, _, rfl⟩⟩
    have I1 : Inv X pins σ (upd H s.heap.objs.size (.tup [.int (i : Nat), x])) { s with heap := h'', toks := tk + 1 } :=
      I.turnedNew (ch := [e, it]) (fun b ob hb q => (sb.2 b (fun z => hb (by simp [z]))).trans (hk b ob (fun z => hb (by simp [z])) (fun z => hb (by simp [z])) q)) hf (Nat.le_refl _) new
    refine ⟨.ref s.heap.objs.size, _, I1, rfl, ⟨_, x, rfl, I.hok.fresh (Nat.le_refl _), rfl, fun ys hy => by rw [I.tuple_inj hy hq]; exact hx⟩, ⟨⟨y, ?_⟩, hst.1.at fun o q => (sb.2 it (Ne.symm hne)).trans q, hne⟩, fun b hb => ?_⟩
    · have e1 : ((i + 1 : Nat) : Int) = (i : Int) + 1 := by omega
      rw [e1]; exact he'
    · have hb' : b < s.heap.objs.size := by
        have e' : b = e ∨ b = it := by simpa using hb
        rcases e' with z | z
        · rw [z]; exact hel
        · rw [z]; exact hil
      rw [upd_ne (Nat.ne_of_lt hb')]
      exact (hf b hb).1
  done := by
    intro X hP hw hK hc i pins s σ H E I hf st hg
    subst hP hw hK
    obtain ⟨⟨old, he⟩, hit, hne⟩ := st
    obtain ⟨xs, hq, hx⟩ := hg
    obtain ⟨its, rv, p, hz⟩ := I.tuple hq
    obtain ⟨f0, f1, f2, f3, f4, f5⟩ := hf it (by simp)
    have hl := rv.length
    have nai : a ≠ it := fun z => by
      obtain ⟨o, q, qc, _⟩ := hit
      obtain ⟨o', q', qc', _⟩ := p
      rw [z, q] at q'
      cases q'
      rw [qc] at qc'
      exact absurd qc' (by decide)
    have hT : s.TypeIs (.ref e) "enumerate" := ⟨_, he, rfl⟩
    unfold pyNext
    refine wpAny_bind (wpAny_attempt (wpAny_callSpecial?_slot (name := Str.ofString "__next__") hT F.slot_enumerate_next
      (wpAny_call_entry F.slot_enumerate_next hT F.entry_enumerate_next ?_ (F.args_enumerate_next_1 _))))
    show wpAny _ _ (field (.ref e) 2 >>= _) _ _ _
    refine wpAny_bind (wpAny_field he rfl (x := .ref it) rfl ?_)
    refine wpAny_bind (wpAny_nextOf_tuple_end (I.ok.hd hc) hit (show s.heap.IsTuple a its.toArray from p) (by simp; omega) fun h' x eb hx' => ?_)
    obtain ⟨o, ho, hcc⟩ := hx'
    refine wpAny_bind (wpAny_isInstance (T := "StopIteration") (b := true) ⟨o, ho, hcc⟩ isSubtype_stop ?_)
    exact wpAny_pure ⟨rfl, I.turned (t' := s.toks) (fun b o hb q => eb b o hb q) f0 f1 f3 f4 f5⟩
  self := fun A i s Q E st h => let ⟨⟨_, he⟩, _⟩ := st; wpAny_pyIter_enum he h
set_option maxHeartbeats 1000000 in
theorem meets_enum_tup (l : Addr) (items : Array Value) :
    Meets (Builtin.«enumerate.__new__» ⟨[.type "enumerate", .ref l], []⟩) (fun _ R s => s.heap.IsTuple l items ∧
      R (.ok (.ret (.ref (s.heap.push { cls := .type "tuple_iterator", data := .fields #[.ref l, .int 0 0] }).objs.size)))
        { s with heap := (s.heap.push { cls := .type "tuple_iterator", data := .fields #[.ref l, .int 0 0] }).push { cls := .type "enumerate", data := .fields #[.none, .bool false, .ref s.heap.objs.size, rawInt 0, .none, .none] } }) :=
  .of_wp fun prog w A R s h => by
    obtain ⟨hp, g, d, tk, os⟩ := s; obtain ⟨hL, h⟩ := h
    have hsub := sub_enumerate
    have q1 : ∀ {A' : Around} {E : Value → Shared → Prop} {Q : Value → Shared → Prop}, Q (.ref hp.objs.size) ⟨hp.push { cls := .type "tuple_iterator", data := .fields #[.ref l, .int 0 0] }, g, d, tk, os⟩ → wpAny (model prog w) A' (pyIter (.ref l)) Q E ⟨hp, g, d, tk, os⟩ :=
      fun q => wpAny_pyIter_tuple (s := ⟨hp, g, d, tk, os⟩) hL q
    wp_walk using q1
    refine wpAny_stack_any fun st => wpAny_pure ?_
    split
    · rename_i c _ _ _ _ _
      cases (c == Value.type "enumerate")
      · wp_walk using q1
        exact ⟨_, rfl, h⟩
      · wp_walk using q1
        exact ⟨_, rfl, h⟩
    · wp_walk using q1
      exact ⟨_, rfl, h⟩
theorem call_enum_tup {prog : Program} {w : World} {A : Around} {E : Value → Shared → Prop} {s : Shared} {l : Addr} {items : Array Value} {Q : Value → Shared → Prop} (hL : s.heap.IsTuple l items)
    (h : ∀ h', IsEnum h' (s.heap.objs.size + 1) s.heap.objs.size 0 .none → h'.IsTupleIter s.heap.objs.size l 0 → h'.objs.size = s.heap.objs.size + 2 →
      (∀ b o, s.heap.get? b = some o → h'.get? b = some o) → Q (.ref (s.heap.objs.size + 1)) { s with heap := h' }) :
    wpAny (model prog w) A (call (.type "enumerate") [.ref l]) Q E s := by
  refine callType_new F.called_enumerate (by decide) (F.typeCall_enumerate_1 _) (F.newCall_enumerate_1 _) (fun obj => F.args_object_init_2 obj _) F.entry_enumerate_new
    (meets_enum_tup l items) ⟨hL, ?_⟩
  have hz : (s.heap.push { cls := .type "tuple_iterator", data := .fields #[.ref l, .int 0 0] }).objs.size = s.heap.objs.size + 1 := Heap.size_push ..
  show _ ∧ _
  rw [hz]
  have he : IsEnum ((s.heap.push { cls := .type "tuple_iterator", data := .fields #[.ref l, .int 0 0] }).push
      { cls := .type "enumerate", data := .fields #[.none, .bool false, .ref s.heap.objs.size, rawInt 0, .none, .none] }) (s.heap.objs.size + 1) s.heap.objs.size 0 .none := by
    have := Heap.get?_push_size (s.heap.push { cls := .type "tuple_iterator", data := .fields #[.ref l, .int 0 0] })
      (o := { cls := .type "enumerate", data := .fields #[.none, .bool false, .ref s.heap.objs.size, rawInt 0, .none, .none] }) rfl
    rw [hz] at this; exact this
  refine ⟨⟨_, he, rfl⟩, h _ he ⟨_, Heap.get?_push_of_some _ (Heap.get?_push_size _ rfl), rfl, rfl⟩ (by rw [Heap.size_push, hz]) fun b o x => Heap.get?_push_of_some _ (Heap.get?_push_of_some _ x)⟩
def iEnumT (K : PySem.W.Frag) (ta : TA) : TI := fun σ H R => ta σ H fun vs H1 => ∃ a xs, vs = [.ref a] ∧ SqT K H1 a xs ∧ R (IteT K a) H1
theorem pi_enumT {X : Cx} {e : Expr} {ta : TA} {p pos tpos : Pos} {elts : List Expr} {kk : Nat} (hg : Gl X "enumerate") (hm : X.mg "enumerate" = none) (ha : PA X [e] ta) (hs : starEach [e] X.env = [(false, eval e X.env)] := by rfl) :
    PI X (.Tuple elts kk tpos) (.Call (.Name "enumerate" p) [e] [] pos) (iEnumT X.K ta) := by
  refine ⟨fun pins s σ H R I h => ?_⟩
  refine Call_ (ld_blt I hg hm boot_enumerate (PyProof.Rows.callWith_type1 (thn (ha.run pos pins s σ H _ I h) fun us s1 ⟨vs, H1, I1, r1, q1⟩ => ?_) hs rfl))
  obtain ⟨a, xs, ex, hq, q⟩ := q1
  subst ex
  cases r1 with
  | cons r rr =>
    cases rr
    cases r
    obtain ⟨its, rv, p', hz⟩ := I1.tuple hq
    refine call_enum_tup (show s1.heap.IsTuple a its.toArray from p') fun h' he hit hsz hk => wpAny_pyIter_enum he ?_
    have I2 : Inv X pins σ H1 { s1 with heap := h' } := I1.kept (t' := s1.toks) hk
    refine ⟨s1.heap.objs.size + 1, [s1.heap.objs.size + 1, s1.heap.objs.size], _, _, H1, rfl, I2, turn_enumT a (s1.heap.objs.size + 1) s1.heap.objs.size, ⟨⟨.none, he⟩, hit, Nat.succ_ne_self _⟩, fun b hb => ?_, q⟩
    have e' : b = s1.heap.objs.size + 1 ∨ b = s1.heap.objs.size := by simpa using hb
    have hle : s1.heap.objs.size ≤ b := by
      rcases e' with z | z
      · rw [z]; exact Nat.le_add_right _ _
      · rw [z]; exact Nat.le_refl _
    exact I1.fpOk hle (I1.hok.fresh hle)
theorem walk_enumT {K : PySem.W.Frag} {a : Addr} {xs : List V} : Walk (IteT K a) xs.length (fun H => SqT K H a xs) (YPair (fun i => some (.int (i : Nat))) (fun i => xs[i]?)) := by
  refine ⟨fun i _ hi q => ⟨xs, xs[i], q, by simp [hi]⟩, fun _ q => ⟨xs, q, Nat.le_refl _⟩, fun i H v H' _ q y => ?_⟩
  obtain ⟨T, x, h1, h2, h3, h4⟩ := y
  exact ⟨T, .int (i : Nat), x, h1, h2, h3, rfl, h4 xs q⟩
end K41

set_option maxHeartbeats 2000000
/-! K41Txt: the text by places, the head's facts, promises' words. -/
namespace K41
open PySem PySem.Spec PyProof.Rows L2
def top (i : Nat) : Stmt := PySem.Challenge.pw_pagefall_k41_whole_stacks_and_orders.main.body.getD i (.Pass ⟨0, 0, 0, 0⟩)
abbrev sis_list : Stmt := top 1
abbrev Nis_list : List Str := ["thing"]
theorem scis_list : FnScope Nis_list ["thing"] (defScope sis_list) := ⟨rfl, rfl, rfl, by decide +kernel, rfl, by decide +kernel, by decide +kernel⟩
abbrev sis_whole : Stmt := top 2
abbrev Nis_whole : List Str := ["thing"]
theorem scis_whole : FnScope Nis_whole ["thing"] (defScope sis_whole) := ⟨rfl, rfl, rfl, by decide +kernel, rfl, by decide +kernel, by decide +kernel⟩
abbrev sis_natural : Stmt := top 3
abbrev Nis_natural : List Str := ["thing"]
theorem scis_natural : FnScope Nis_natural ["thing"] (defScope sis_natural) := ⟨rfl, rfl, rfl, by decide +kernel, rfl, by decide +kernel, by decide +kernel⟩
abbrev sis_block_row : Stmt := top 10
abbrev Nis_block_row : List Str := ["thing", "number"]
theorem scis_block_row : FnScope Nis_block_row ["thing"] (defScope sis_block_row) := ⟨rfl, rfl, rfl, by decide +kernel, rfl, by decide +kernel, by decide +kernel⟩
abbrev sstacked : Stmt := top 11
abbrev Nstacked : List Str := ["rows", "begins", "foot", "ahead", "upper", "height", "lower"]
theorem scstacked : FnScope Nstacked ["rows"] (defScope sstacked) := ⟨rfl, rfl, rfl, by decide +kernel, rfl, by decide +kernel, by decide +kernel⟩
abbrev sstack_of : Stmt := top 12
abbrev Nstack_of : List Str := ["rows", "index", "thing"]
theorem scstack_of : FnScope Nstack_of ["rows"] (defScope sstack_of) := ⟨rfl, rfl, rfl, by decide +kernel, rfl, by decide +kernel, by decide +kernel⟩
abbrev schecked_margins : Stmt := top 13
abbrev Nchecked_margins : List Str := ["margins", "index", "thing"]
theorem scchecked_margins : FnScope Nchecked_margins ["margins"] (defScope schecked_margins) := ⟨rfl, rfl, rfl, by decide +kernel, rfl, by decide +kernel, by decide +kernel⟩
abbrev sleast_stack : Stmt := top 14
abbrev Nleast_stack : List Str := ["margins", "held"]
theorem scleast_stack : FnScope Nleast_stack ["margins"] (defScope sleast_stack) := ⟨rfl, rfl, rfl, by decide +kernel, rfl, by decide +kernel, by decide +kernel⟩
abbrev sgreatest_stack : Stmt := top 15
abbrev Ngreatest_stack : List Str := ["margins", "held", "half"]
theorem scgreatest_stack : FnScope Ngreatest_stack ["margins"] (defScope sgreatest_stack) := ⟨rfl, rfl, rfl, by decide +kernel, rfl, by decide +kernel, by decide +kernel⟩
abbrev sis_least_order : Stmt := top 16
abbrev Nis_least_order : List Str := ["margins", "held", "gaps", "one", "two"]
theorem scis_least_order : FnScope Nis_least_order ["margins"] (defScope sis_least_order) := ⟨rfl, rfl, rfl, by decide +kernel, rfl, by decide +kernel, by decide +kernel⟩
abbrev sgreatest_order : Stmt := top 17
abbrev Ngreatest_order : List Str := ["margins", "held", "order", "index", "half", "great", "small", "found", "place"]
theorem scgreatest_order : FnScope Ngreatest_order ["margins"] (defScope sgreatest_order) := ⟨rfl, rfl, rfl, by decide +kernel, rfl, by decide +kernel, by decide +kernel⟩
abbrev s_law_source : Stmt := top 19
abbrev N_law_source : List Str := ["_law_script", "_law_place", "_law_cell", "_law_seed", "_law_other"]
theorem sc_law_source : FnScope N_law_source ["_law_script", "_law_place"] (defScope s_law_source) := ⟨rfl, rfl, rfl, by decide +kernel, rfl, by decide +kernel, by decide +kernel⟩
abbrev s_law_draw : Stmt := top 20
abbrev N_law_draw : List Str := ["_law_draws", "_law_many", "_law_found", "_law_seed"]
theorem sc_law_draw : FnScope N_law_draw ["_law_draws", "_law_many"] (defScope s_law_draw) := ⟨rfl, rfl, rfl, by decide +kernel, rfl, by decide +kernel, by decide +kernel⟩
abbrev s_law_pick : Stmt := top 21
abbrev N_law_pick : List Str := ["_law_draws", "_law_some"]
theorem sc_law_pick : FnScope N_law_pick ["_law_draws", "_law_some"] (defScope s_law_pick) := ⟨rfl, rfl, rfl, by decide +kernel, rfl, by decide +kernel, by decide +kernel⟩
abbrev s_law_mixed : Stmt := top 22
abbrev N_law_mixed : List Str := ["_law_draws", "_law_some", "_law_rest", "_law_found"]
theorem sc_law_mixed : FnScope N_law_mixed ["_law_draws", "_law_some"] (defScope s_law_mixed) := ⟨rfl, rfl, rfl, by decide +kernel, rfl, by decide +kernel, by decide +kernel⟩
abbrev s_law_same : Stmt := top 23
abbrev N_law_same : List Str := ["_law_found", "_law_due", "_law_x", "_law_y"]
theorem sc_law_same : FnScope N_law_same ["_law_found", "_law_due"] (defScope s_law_same) := ⟨rfl, rfl, rfl, by decide +kernel, rfl, by decide +kernel, by decide +kernel⟩
abbrev s_law_stack : Stmt := top 24
abbrev N_law_stack : List Str := ["_law_rows", "_law_found", "_law_y", "_law_gap", "_law_k", "_law_upper", "_law_height", "_law_lower"]
theorem sc_law_stack : FnScope N_law_stack ["_law_rows"] (defScope s_law_stack) := ⟨rfl, rfl, rfl, by decide +kernel, rfl, by decide +kernel, by decide +kernel⟩
abbrev s_law_gaps : Stmt := top 25
abbrev N_law_gaps : List Str := ["_law_margins", "_law_one", "_law_other"]
theorem sc_law_gaps : FnScope N_law_gaps ["_law_margins"] (defScope s_law_gaps) := ⟨rfl, rfl, rfl, by decide +kernel, rfl, by decide +kernel, by decide +kernel⟩
abbrev s_law_orders : Stmt := top 26
abbrev N_law_orders : List Str := ["_law_things", "_law_found", "_law_thing", "_law_longer", "_law_order", "_law_at"]
theorem sc_law_orders : FnScope N_law_orders ["_law_things"] (defScope s_law_orders) := ⟨rfl, rfl, rfl, by decide +kernel, rfl, by decide +kernel, by decide +kernel⟩
abbrev s_law_is_hill : Stmt := top 27
abbrev N_law_is_hill : List Str := ["_law_margins", "_law_is_down", "_law_one", "_law_other"]
theorem sc_law_is_hill : FnScope N_law_is_hill ["_law_margins"] (defScope s_law_is_hill) := ⟨rfl, rfl, rfl, by decide +kernel, rfl, by decide +kernel, by decide +kernel⟩
abbrev s_law_most : Stmt := top 28
abbrev N_law_most : List Str := ["_law_margins", "_law_row", "_law_half"]
theorem sc_law_most : FnScope N_law_most ["_law_margins"] (defScope s_law_most) := ⟨rfl, rfl, rfl, by decide +kernel, rfl, by decide +kernel, by decide +kernel⟩
abbrev s_law_order_right : Stmt := top 29
abbrev N_law_order_right : List Str := ["_law_draws", "_law_margins", "_law_told", "_law_k"]
theorem sc_law_order_right : FnScope N_law_order_right ["_law_draws", "_law_margins"] (defScope s_law_order_right) := ⟨rfl, rfl, rfl, by decide +kernel, rfl, by decide +kernel, by decide +kernel⟩
abbrev s_law_few_right : Stmt := top 30
abbrev N_law_few_right : List Str := ["_law_draws", "_law_margins", "_law_k", "_law_orders_here", "_law_order", "_law_sums", "_law_handed", "_law_due"]
theorem sc_law_few_right : FnScope N_law_few_right ["_law_draws"] (defScope s_law_few_right) := ⟨rfl, rfl, rfl, by decide +kernel, rfl, by decide +kernel, by decide +kernel⟩
abbrev s_law_many_right : Stmt := top 31
abbrev N_law_many_right : List Str := ["_law_draws", "_law_most_here", "_law_margins", "_law_k", "_law_found", "_law_due"]
theorem sc_law_many_right : FnScope N_law_many_right ["_law_draws"] (defScope s_law_many_right) := ⟨rfl, rfl, rfl, by decide +kernel, rfl, by decide +kernel, by decide +kernel⟩
abbrev slaw : Stmt := top 32
abbrev Nlaw : List Str := ["_law_script", "_law_turn", "_law_draws", "_law_menu", "_law_rows", "_law_k", "_law_place", "_law_handed", "_law_row", "_law_found", "_law_at", "_law_bent", "_law_one", "_law_other", "_law_moved", "_law_x", "_law_y"]
theorem sclaw : FnScope Nlaw ["_law_script"] (defScope slaw) := ⟨rfl, rfl, rfl, by decide +kernel, rfl, by decide +kernel, by decide +kernel⟩
/-! ### the built-ins' names -/
theorem bt_isinstance : bootBuiltins "isinstance" = some (.builtin "isinstance") := by decide +kernel
theorem bt_len : bootBuiltins "len" = some (.builtin "len") := by decide +kernel
theorem bt_all : bootBuiltins "all" = some (.builtin "all") := by decide +kernel
theorem bt_max : bootBuiltins "max" = some (.builtin "max") := by decide +kernel
theorem bt_min : bootBuiltins "min" = some (.builtin "min") := by decide +kernel
theorem bt_sum : bootBuiltins "sum" = some (.builtin "sum") := by decide +kernel
theorem bt_sorted : bootBuiltins "sorted" = some (.builtin "sorted") := by decide +kernel
theorem bt_list : bootBuiltins "list" = some (.type "list") := by decide +kernel
theorem bt_tuple : bootBuiltins "tuple" = some (.type "tuple") := by decide +kernel
theorem bt_int : bootBuiltins "int" = some (.type "int") := by decide +kernel
theorem bt_bool : bootBuiltins "bool" = some (.type "bool") := by decide +kernel
theorem bt_dict : bootBuiltins "dict" = some (.type "dict") := by decide +kernel
/-- the built-ins are what they are -/
structure Txt (mg : Str → Option Value) : Prop where
  isinstance : mg "isinstance" = none
  list : mg "list" = none
  tuple : mg "tuple" = none
  int : mg "int" = none
  bool : mg "bool" = none
  dict : mg "dict" = none
  len : mg "len" = none
  all : mg "all" = none
  enumerate : mg "enumerate" = none
  max : mg "max" = none
  min : mg "min" = none
  sum : mg "sum" = none
  sorted : mg "sorted" = none
  zip : mg "zip" = none
  range : mg "range" = none
abbrev FnP (K : PySem.W.Frag) (x : Str) (st : Stmt) (f : Addr) (fd : FuncData) : Prop := FunD K x x (defArgs st) (defBody st) (defScope st) [] [] f fd
/-- a def that can be called by its name -/
structure Cal (P : Program) (w : World) (K : PySem.W.Frag) (mg : Str → Option Value) (base : Heap) (k : Nat) (x : Str) (ps : List Str) (sp : Sp) (f : Addr) (fd : FuncData) : Prop where
  ok : FnOk P w K mg base CX0 k f fd ps sp
  mg : mg x = some (.ref f)
  kp : PySem.W.keepIn K (.ref f) = true
  b : Binds K fd ps []
theorem cal_of {P : Program} {w : World} {K : PySem.W.Frag} {mg : Str → Option Value} {base : Heap} {k : Nat} {x : Str} {st : Stmt} {N ps : List Str} {sp : Sp} {f : Addr} {fd : FuncData} (F : FnP K x st f fd) (S : FnScope N ps (defScope st)) (hm : mg x = some (.ref f))
    (hb : ∀ (kV doc pm : Value) (an : Option Addr) (cdv ct : Value) (us : List Value), us.length = ps.length → bindArgs (PySem.W.fnOf x x (defArgs st) (defBody st) (defScope st) .none kV doc pm an cdv ct) ⟨us, []⟩ = pure (ps.zip us))
    (len : ∀ vs H Q E, sp vs H Q E → vs.length = ps.length)
    (hbody : ∀ (cdv : Value) (A : Around) (outer : List Env) (s : Shared) (H : Hp) (vs : List V) (Q : VK) (E : XK), Room k (A.deeper (envOfC x (defScope st) s.heap.objs.size f cdv)) → sp vs H Q E →
      ∃ t, PSs (cxOf CX0 P w K mg base N x (defScope st) f cdv A outer s H E).nox (defBody st) t ∧ t { nx := fun _ H' => Q .non H', rt := Q } (start N vs) H) : Cal P w K mg base (k + 1) x ps sp f fd :=
  ⟨F.ok S len fun cdv A outer s H vs Q E hr h => let ⟨t, a, b⟩ := hbody cdv A outer s H vs Q E hr h; ⟨t, a.nox, b⟩, hm, F.kp, F.bindsN hb⟩
/-! ### heaps -/
theorem same_new {H : Hp} {p : Addr} (np : H p = none) (o : HO) : Same H (upd H p o) := fun b u q => by rw [upd_ne (ne_of_none q np)]; exact q
theorem Same.mut {H H' : Hp} {p : Addr} {o : HO} (s : Same H H') (np : H p = none) : Same H (upd H' p o) := fun b u q => by rw [upd_ne (ne_of_none q np)]; exact s b u q
/-- a new object, its heap by a name -/
theorem nw {H H1 : Hp} {p : Addr} {o : HO} (e : upd H p o = H1) (np : H p = none) : Same H H1 ∧ H1 p = some o := by
  subst e
  exact ⟨same_new np o, upd_same⟩
/-- a list or a tuple -/
def IsSeq (H : Hp) (a : Addr) (xs : List V) : Prop := H a = some (.lst xs) ∨ H a = some (.tup xs)
theorem IsSeq.same {H H' : Hp} {a : Addr} {xs : List V} (h : IsSeq H a xs) (s : Same H H') : IsSeq H' a xs := h.imp (s _ _) (s _ _)
theorem IsSeq.sq {K : PySem.W.Frag} {H : Hp} {a : Addr} {xs : List V} (h : IsSeq H a xs) : SqL K H a xs ∨ SqT K H a xs := h.imp SqL.of SqT.of
theorem sz_le {n : Nat} (h : n ≤ 1000000) : n ≤ sizeLine := Nat.le_trans h (by decide)
theorem sz_lt {n : Nat} (h : n < 1000000) : n < sizeLine := Nat.lt_of_lt_of_le h (by decide)
/-- all but the draws at d and tables stay; the table of lambdas stays one -/
structure Kp (TP : Addr) (TQ : Str) (d : Addr) (H H' : Hp) : Prop where
  keep : ∀ b o, H b = some o → ∃ o', H' b = some o' ∧ (b ≠ d → (∀ ps, o ≠ .tbl ps) → o' = o)
  tab : LamX.TabS H TP TQ → LamX.TabS H' TP TQ
section
variable {TP d : Addr} {TQ : Str} {H H1 H2 H' : Hp} {p : Addr} {o : HO} {xs : List V}
theorem Kp.refl : Kp TP TQ d H H := ⟨fun b o h => ⟨o, h, fun _ _ => rfl⟩, id⟩
theorem Kp.trans (a : Kp TP TQ d H H1) (b : Kp TP TQ d H1 H2) : Kp TP TQ d H H2 := by
  refine ⟨fun c o h => ?_, fun t => b.tab (a.tab t)⟩
  obtain ⟨o1, h1, e1⟩ := a.keep c o h
  obtain ⟨o2, h2, e2⟩ := b.keep c o1 h1
  refine ⟨o2, h2, fun n t => ?_⟩
  have q := e1 n t
  subst q
  exact e2 n t
theorem Kp.of (s : Same H H') : Kp TP TQ d H H' := ⟨fun b o h => ⟨o, s b o h, fun _ _ => rfl⟩, fun t => t.ext s⟩
theorem Kp.lst (k : Kp TP TQ d H H') (h : H p = some (.lst xs)) (n : p ≠ d) : H' p = some (.lst xs) := by
  obtain ⟨o', h', e⟩ := k.keep p _ h
  rw [h', e n fun _ z => by cases z]
theorem Kp.tup (k : Kp TP TQ d H H') (h : H p = some (.tup xs)) (n : p ≠ d) : H' p = some (.tup xs) := by
  obtain ⟨o', h', e⟩ := k.keep p _ h
  rw [h', e n fun _ z => by cases z]
theorem Kp.seq (k : Kp TP TQ d H H') (h : IsSeq H p xs) (n : p ≠ d) : IsSeq H' p xs := h.imp (fun z => k.lst z n) fun z => k.tup z n
theorem Kp.free (k : Kp TP TQ d H H') (n : H' p = none) : H p = none := by
  cases q : H p with
  | none => rfl
  | some o =>
    obtain ⟨o', h', _⟩ := k.keep p o q
    rw [n] at h'
    cases h'
theorem Kp.sqL {K : PySem.W.Frag} (k : Kp TP TQ d H H') (h : SqL K H p xs) (n : p ≠ d) : SqL K H' p xs := by
  rcases h with (h | ⟨o, h⟩) | h
  · exact SqL.of (k.lst h n)
  · obtain ⟨o', h', e⟩ := k.keep p _ h
    rw [e n fun _ z => by cases z] at h'
    exact .inl (.inr ⟨o, h'⟩)
  · exact .inr h
/-- a step that writes the draws alone -/
theorem Kp.draw (k : ∀ b u, H b = some u → ∃ u', H' b = some u' ∧ (b ≠ d → u' = u)) (hd : H d = some (.lst xs)) : Kp TP TQ d H H' := by
  have kk : ∀ b u, H b = some u → (∀ ys, u ≠ .lst ys) → H' b = some u := fun b u h n => by
    obtain ⟨u', h', e⟩ := k b u h
    rw [h', e (ne_of h hd (n xs))]
  refine ⟨fun b u h => ?_, fun ⟨ps, h1, h2, h3⟩ => ⟨ps, kk _ _ h1 fun _ z => (by cases z), h2, fun pos cv hc => ?_⟩⟩
  · obtain ⟨u', h', e⟩ := k b u h
    exact ⟨u', h', fun n _ => e n⟩
  · obtain ⟨c, e1, e2⟩ := h3 pos cv hc
    exact ⟨c, e1, kk _ _ e2 fun _ z => by unfold LamX.CodeO at z; cases z⟩
/-- a list that was not there at the start is written -/
theorem Kp.mut (k : Kp TP TQ d H H') (np : H p = none) (hp : H' p = some (.lst xs)) : Kp TP TQ d H (upd H' p o) := by
  refine ⟨fun b u h => ?_, fun t => ?_⟩
  · rw [upd_ne (ne_of_none h np)]
    exact k.keep b u h
  · obtain ⟨ps, h1, h2, h3⟩ := k.tab t
    refine ⟨ps, by rw [upd_ne (ne_of h1 hp (by intro z; cases z))]; exact h1, h2, fun pos cv hc => ?_⟩
    obtain ⟨c, e1, e2⟩ := h3 pos cv hc
    exact ⟨c, e1, by rw [upd_ne (ne_of e2 hp (by intro z; unfold LamX.CodeO at z; cases z))]; exact e2⟩
end
/-- the draws: two numbers and a count of at most n -/
def Dr (H : Hp) (d : Addr) (n : Int) : Prop := ∃ x y z : Int, H d = some (.lst [.int x, .int y, .int z]) ∧ 0 ≤ y ∧ y < 2147483629 ∧ 0 ≤ z ∧ z ≤ n
theorem Dr.mono {H : Hp} {d : Addr} {n m : Int} (h : Dr H d n) (e : n ≤ m) : Dr H d m := by
  obtain ⟨x, y, z, a, b, c, f, g⟩ := h
  exact ⟨x, y, z, a, b, c, f, Int.le_trans g e⟩
theorem Dr.same {H H' : Hp} {d : Addr} {n : Int} (h : Dr H d n) (s : Same H H') : Dr H' d n := by
  obtain ⟨x, y, z, a, r⟩ := h
  exact ⟨x, y, z, s _ _ a, r⟩
theorem Dr.at {H : Hp} {d : Addr} {n : Int} (h : Dr H d n) : ∃ xs, H d = some (.lst xs) := by
  obtain ⟨x, y, z, a, _⟩ := h
  exact ⟨_, a⟩
theorem Dr.ne {H : Hp} {d p : Addr} {n : Int} (h : Dr H d n) (np : H p = none) : p ≠ d := by
  obtain ⟨xs, a⟩ := h.at
  exact (ne_of_none a np).symm
theorem Dr.upd {H : Hp} {d p : Addr} {o : HO} {n : Int} (h : Dr H d n) (ne : p ≠ d) : Dr (upd H p o) d n := by
  obtain ⟨x, y, z, a, r⟩ := h
  exact ⟨x, y, z, by rw [upd_ne ne.symm]; exact a, r⟩
end K41

set_option maxHeartbeats 2000000
/-! K41A: loops over a list or a tuple; the looks. -/
namespace K41
open PySem PySem.Spec PyProof.Rows L2
/-! ### loops over a list or a tuple -/
section
variable {K : PySem.W.Frag} {a : Addr} {xs : List V} {σ : L2.St} {H H0 : Hp} {g : TG} {tb : TS} {D : Ends} {tl : TE}
theorem for_seq (ht : ∀ R : VK, R (.ref a) H → tl σ H R) (h : IsSeq H0 a xs) (Pv : Nat → L2.St → Hp → Prop) (h0 : Pv 0 σ H) (hS : ∀ i σ' H', Pv i σ' H' → Same H0 H')
    (hs : ∀ i x σ' H', xs[i]? = some x → Pv i σ' H' → g x σ' H' fun σ2 H2 => tb { D with nx := Pv (i + 1), ct := Pv (i + 1), bk := D.nx } σ2 H2) (hd : ∀ σ' H', Pv xs.length σ' H' → D.nx σ' H') :
    tFor (fun σ H R => iList K tl σ H R ∨ iTup K tl σ H R) g tb D σ H := by
  rcases h with h | h
  · refine .inl (ht _ ⟨a, rfl, ⟨xs, SqL.of (hS 0 σ H h0 _ _ h)⟩, for_it (walk_list (K := K) (a := a) (xs := xs)) Pv h0 (fun i σ' H' _ p => SqL.of (hS i σ' H' p _ _ h)) (fun i x σ' H' H2 _ p y => ?_) hd⟩)
    obtain ⟨rfl, hx⟩ := y
    exact hs i x σ' H2 hx p
  · refine .inr (ht _ ⟨a, rfl, ⟨xs, SqT.of (hS 0 σ H h0 _ _ h)⟩, for_it (walk_tup (K := K) (a := a) (xs := xs)) Pv h0 (fun i σ' H' _ p => SqT.of (hS i σ' H' p _ _ h)) (fun i x σ' H' H2 _ p y => ?_) hd⟩)
    obtain ⟨rfl, hx⟩ := y
    exact hs i x σ' H2 hx p
theorem for_enumS {ta : TA} (ht : ∀ R : List V → Hp → Prop, R [.ref a] H → ta σ H R) (h : IsSeq H0 a xs) (Pv : Nat → L2.St → Hp → Prop) (h0 : Pv 0 σ H) (hS : ∀ i σ' H', Pv i σ' H' → Same H0 H')
    (hs : ∀ (i : Nat) (x : V) (T : Addr) σ' H', xs[i]? = some x → Pv i σ' H' → H' T = none → g (.ref T) σ' (upd H' T (.tup [.int (i : Nat), x])) fun σ2 H2 => tb { D with nx := Pv (i + 1), ct := Pv (i + 1), bk := D.nx } σ2 H2) (hd : ∀ σ' H', Pv xs.length σ' H' → D.nx σ' H') :
    tFor (fun σ H R => iEnum K ta σ H R ∨ iEnumT K ta σ H R) g tb D σ H := by
  rcases h with h | h
  · refine .inl (ht _ ⟨a, xs, rfl, SqL.of (hS 0 σ H h0 _ _ h), for_it (walk_enum (K := K) (a := a) (xs := xs)) Pv h0 (fun i σ' H' _ p => SqL.of (hS i σ' H' p _ _ h)) (fun i x σ' H' H2 _ p y => ?_) hd⟩)
    obtain ⟨T, y1, y2, rfl, nT, rfl, e1, e2⟩ := y
    obtain rfl := (Option.some.inj e1).symm
    exact hs i y2 T σ' H' e2 p nT
  · refine .inr (ht _ ⟨a, xs, rfl, SqT.of (hS 0 σ H h0 _ _ h), for_it (walk_enumT (K := K) (a := a) (xs := xs)) Pv h0 (fun i σ' H' _ p => SqT.of (hS i σ' H' p _ _ h)) (fun i x σ' H' H2 _ p y => ?_) hd⟩)
    obtain ⟨T, y1, y2, rfl, nT, rfl, e1, e2⟩ := y
    obtain rfl := (Option.some.inj e1).symm
    exact hs i y2 T σ' H' e2 p nT
/-- a comprehension over a list or a tuple: Pv by the turn and the heap -/
theorem lc_seq {tt : TT} {te : TE} {vs : List Nat} {Q : VK} (ht : ∀ R : VK, R (.ref a) H → tl σ H R) (h : IsSeq H a xs) (Pv : Addr → Nat → Hp → Prop) (h0 : ∀ D, H D = none → Pv D 0 (upd H D (.lst []))) (hS : ∀ D i H', Pv D i H' → Same H H')
    (hs : ∀ D i x H', H D = none → xs[i]? = some x → Pv D i H' → g x (wipe σ vs) H' fun σ2 H2 => wipe σ2 vs = wipe σ vs ∧ tt σ2 H2 fun b H3 =>
      if b = true then te σ2 H3 fun y H4 => ∃ acc, H4 D = some (.lst acc) ∧ acc.length < sizeLine ∧ Pv D (i + 1) (upd H4 D (.lst (acc ++ [y]))) else Pv D (i + 1) H3) (hd : ∀ D H', H D = none → Pv D xs.length H' → Q (.ref D) H') :
    tLc (fun σ H R => iList K tl σ H R ∨ iTup K tl σ H R) g tt te vs σ H Q := by
  rcases h with h | h
  · refine .inl (ht _ ⟨a, rfl, ⟨xs, SqL.of h⟩, fun D nD => lc_it (walk_list (K := K) (a := a) (xs := xs)) (Pv D) (h0 D nD) (fun i H' _ p => SqL.of (hS D i H' p _ _ h)) (fun i x H' H2 _ p y => ?_) fun H' p => hd D H' nD p⟩)
    obtain ⟨rfl, hx⟩ := y
    exact hs D i x H2 nD hx p
  · refine .inr (ht _ ⟨a, rfl, ⟨xs, SqT.of h⟩, fun D nD => lc_it (walk_tup (K := K) (a := a) (xs := xs)) (Pv D) (h0 D nD) (fun i H' _ p => SqT.of (hS D i H' p _ _ h)) (fun i x H' H2 _ p y => ?_) fun H' p => hd D H' nD p⟩)
    obtain ⟨rfl, hx⟩ := y
    exact hs D i x H2 nD hx p
end
theorem yes_ {σ : L2.St} {H : Hp} {A B : Hp → Prop} (h : A H) : tYes σ H (fun b H3 => if b = true then A H3 else B H3) := by
  show if true = true then A H else B H
  rw [if_pos rfl]
  exact h
/-! ### promises -/
/-- hands back v; all stays -/
abbrev Ret (v : V) (H : Hp) (Q : VK) : Prop := ∀ H', Same H H' → Q v H'
def spIsList : Sp := fun vs H Q _ => ∃ (a : Addr) (xs : List V), vs = [.ref a] ∧ IsSeq H a xs ∧ Ret (.bl true) H Q
def spIsWhole : Sp := fun vs H Q _ => ∃ i : Int, vs = [.int i] ∧ Ret (.bl true) H Q
def spIsNat : Sp := fun vs H Q _ => ∃ i : Int, vs = [.int i] ∧ 0 ≤ i ∧ Ret (.bl true) H Q
def spBlockRow : Sp := fun vs H Q _ => ∃ (a : Addr) (ns : List Int), vs = [.ref a] ∧ IsSeq H a (ns.map V.int) ∧ ns.length = 3 ∧ Nn ns ∧ Ret (.bl true) H Q
def spChecked : Sp := fun vs H Q _ => ∃ (a : Addr) (ns : List Int), vs = [.ref a] ∧ IsSeq H a (ns.map V.int) ∧ Nn ns ∧
  ∀ H' p, Same H H' → H p = none → H' p = some (.lst (ns.map V.int)) → Q (.ref p) H'
section
variable {P : Program} {w : World} {K : PySem.W.Frag} {mg : Str → Option Value} {base : Heap} {f : Addr} {fd : FuncData} {f1 f2 f3 : Addr} {fd1 fd2 fd3 : FuncData}
theorem isi_seq {K : PySem.W.Frag} {H : Hp} {a : Addr} {xs : List V} (h : IsSeq H a xs) : ∃ t, TyX K H (.ref a) t ∧ PySem.W.kitAny K t [.type "list", .type "tuple"] = some true := by
  rcases h with h | h
  · exact ⟨.type "list", .base (.lst h), kitAny_cons (b := true) (kit_ty (by decide +kernel)) (fun z => by cases z) fun _ => rfl⟩
  · exact ⟨.type "tuple", .base (.tup h), kitAny_cons (b := false) (kit_ty (by decide +kernel)) (fun _ => kitAny_cons (b := true) (kit_ty (by decide +kernel)) (fun z => by cases z) fun _ => rfl) fun z => by cases z⟩
theorem ok_is_list (T : Txt mg) (F : FnP K "is_list" sis_list f fd) (hm : mg "is_list" = some (.ref f)) : Cal P w K mg base 1 "is_list" ["thing"] spIsList f fd := by
  refine cal_of F scis_list hm (fun _ _ _ _ _ _ us hl => match us, hl with | [_], _ => rfl) (fun vs H Q E h => ?_) (fun cdv A outer s H vs Q E hr h => ?_)
  · obtain ⟨a, xs, rfl, _⟩ := h
    rfl
  obtain ⟨a, xs, rfl, h, q⟩ := h
  refine ⟨_, (pss_one (ps_ret (pe_callB call_isiT (by rfl) T.isinstance bt_isinstance (pa_cons (pv 0) (pa_cons (pe_tup (pa_cons (pe_bltn (v := .ty "list") (by rfl) T.list bt_list rfl) (pa_cons (pe_bltn (v := .ty "tuple") (by rfl) T.tuple bt_tuple rfl) pa_nil))) pa_nil))))), ?_⟩
  refine ⟨_, rfl, (by show 2 ≤ sizeLine; decide), fun p np => ?_⟩
  obtain ⟨t, ht, hk⟩ := isi_seq (K := K) (h.same (same_new np (.tup [.ty "list", .ty "tuple"])))
  exact ⟨_, p, _, t, _, true, rfl, upd_same, .cons (.ty _) (.cons (.ty _) .nil), ht, hk, q _ (same_new np _)⟩
theorem ok_is_whole (T : Txt mg) (F : FnP K "is_whole" sis_whole f fd) (hm : mg "is_whole" = some (.ref f)) : Cal P w K mg base 1 "is_whole" ["thing"] spIsWhole f fd := by
  refine cal_of F scis_whole hm (fun _ _ _ _ _ _ us hl => match us, hl with | [_], _ => rfl) (fun vs H Q E h => ?_) (fun cdv A outer s H vs Q E hr h => ?_)
  · obtain ⟨i, rfl, _⟩ := h
    rfl
  obtain ⟨i, rfl, q⟩ := h
  refine ⟨_, (pss_one (ps_ret (pe_and (pe_callB call_isi (by rfl) T.isinstance bt_isinstance (pa_cons (pv 0) (pa_cons (pe_bltn (v := .ty "int") (by rfl) T.int bt_int rfl) pa_nil))) (pe_one (pe_not (pe_callB call_isi (by rfl) T.isinstance bt_isinstance (pa_cons (pv 0) (pa_cons (pe_bltn (v := .ty "bool") (by rfl) T.bool bt_bool rfl) pa_nil)))))))), ?_⟩
  refine ⟨_, rfl, _, _, .type "int", .type "int", true, rfl, .ty _, .base (.int _), kit_ty (by decide +kernel), true, rfl, ?_⟩
  refine iteT ?_
  exact ⟨_, rfl, _, _, .type "int", .type "bool", false, rfl, .ty _, .base (.int _), kit_ty (by decide +kernel), false, rfl, q _ (Same.refl _)⟩
theorem ok_is_natural (c : Cal P w K mg base 1 "is_whole" ["thing"] spIsWhole f1 fd1) (F : FnP K "is_natural" sis_natural f fd) (hm : mg "is_natural" = some (.ref f)) : Cal P w K mg base 2 "is_natural" ["thing"] spIsNat f fd := by
  have cis_whole := c
  refine cal_of F scis_natural hm (fun _ _ _ _ _ _ us hl => match us, hl with | [_], _ => rfl) (fun vs H Q E h => ?_) (fun cdv A outer s H vs Q E hr h => ?_)
  · obtain ⟨i, rfl, _⟩ := h
    rfl
  obtain ⟨i, rfl, h0, q⟩ := h
  refine ⟨_, (pss_one (ps_ret (pe_and (pe_call cis_whole.ok (hr.mono (by omega)) (by rfl) cis_whole.mg cis_whole.kp cis_whole.b .nil pass0 (pa_cons (pv 0) pa_nil)) (pe_one (pe_cmpR op_ge (pv 0) pe_int (nomark _)))))), ?_⟩
  refine ⟨_, rfl, i, rfl, fun H1 s1 => ⟨true, rfl, iteT ?_⟩⟩
  refine ⟨_, rfl, i, 0, rfl, rfl, ?_⟩
  show Q (.bl (decide (0 ≤ i))) H1
  rw [decide_eq_true h0]
  exact q _ s1
theorem ok_checked (T : Txt mg) (cis_list : Cal P w K mg base 1 "is_list" ["thing"] spIsList f1 fd1) (cis_natural : Cal P w K mg base 2 "is_natural" ["thing"] spIsNat f2 fd2) (F : FnP K "checked_margins" schecked_margins f fd)
    (hm : mg "checked_margins" = some (.ref f)) : Cal P w K mg base 3 "checked_margins" ["margins"] spChecked f fd := by
  refine cal_of F scchecked_margins hm (fun _ _ _ _ _ _ us hl => match us, hl with | [_], _ => rfl) (fun vs H Q E h => ?_) (fun cdv A outer s H vs Q E hr h => ?_)
  · obtain ⟨a, ns, rfl, _⟩ := h
    rfl
  obtain ⟨a, ns, rfl, h, hn, q⟩ := h
  refine ⟨_, (pss_cons (ps_if (pt_not (pt_val (pe_call cis_list.ok (hr.mono (by omega)) (by rfl) cis_list.mg cis_list.kp cis_list.b .nil pass0 (pa_cons (pv 0) pa_nil)))) (pss_one ps_never) pss_nil)
      (pss_cons (ps_for PassesOwn.never rfl (pi_or (pi_enum (by rfl) T.enumerate (pa_cons (pv 0) pa_nil)) (pi_enumT (by rfl) T.enumerate (pa_cons (pv 0) pa_nil))) (pg_tup rfl (pgs_cons (pg_name (i := 1) scchecked_margins.nd rfl (Or.inl rfl)) (pgs_cons (pg_name (i := 2) scchecked_margins.nd rfl (Or.inl rfl)) pgs_nil))) (pss_one (ps_if (pt_not (pt_val (pe_call cis_natural.ok (hr.mono (by omega)) (by rfl) cis_natural.mg cis_natural.kp cis_natural.b .nil pass0 (pa_cons (pv 2) pa_nil)))) (pss_one ps_never) pss_nil)))
      (pss_one (ps_ret (pe_callTy call_list_of (by rfl) T.list bt_list (pa_cons (pv 0) pa_nil)))))), ?_⟩
  refine ⟨_, rfl, a, _, rfl, h, fun H1 s1 => ⟨true, rfl, iteF ?_⟩⟩
  refine for_enumS (H0 := H1) (xs := ns.map V.int) (fun R r => ⟨_, rfl, r⟩) (h.same s1) (fun i σ' H' => ∃ v1 v2, σ' = [some (.ref a), v1, v2] ∧ Same H1 H') ⟨none, none, rfl, Same.refl _⟩ (fun i σ' H' ⟨_, _, _, z⟩ => z) ?_ ?_
  · rintro i x T σ' H' hx ⟨v1, v2, rfl, s2⟩ nT
    obtain ⟨n, hi, rfl⟩ : ∃ n, ns[i]? = some n ∧ x = .int n := by
      rw [List.getElem?_map] at hx
      cases e : ns[i]? with
      | none => rw [e] at hx; cases hx
      | some n => rw [e] at hx; exact ⟨n, rfl, (Option.some.inj hx).symm⟩
    refine ⟨T, _, rfl, SqT.of upd_same, rfl, _, _, rfl, _, _, rfl, rfl, ?_⟩
    refine ⟨_, rfl, n, rfl, hn n (List.mem_of_getElem? hi), fun H2 s3 => ⟨true, rfl, iteF ?_⟩⟩
    exact ⟨_, _, rfl, (s2.trans (same_new nT _)).trans s3⟩
  · rintro σ' H' ⟨v1, v2, rfl, s2⟩
    refine ⟨_, rfl, a, _, rfl, ((h.same s1).same s2).sq, fun l nl => ?_⟩
    exact q _ l ((s1.trans s2).trans (same_new nl _)) ((s1.trans s2).free nl) upd_same
theorem ok_block_row (T : Txt mg) (cis_list : Cal P w K mg base 1 "is_list" ["thing"] spIsList f1 fd1) (cis_natural : Cal P w K mg base 2 "is_natural" ["thing"] spIsNat f2 fd2) (F : FnP K "is_block_row" sis_block_row f fd)
    (hm : mg "is_block_row" = some (.ref f)) : Cal P w K mg base 3 "is_block_row" ["thing"] spBlockRow f fd := by
  refine cal_of F scis_block_row hm (fun _ _ _ _ _ _ us hl => match us, hl with | [_], _ => rfl) (fun vs H Q E h => ?_) (fun cdv A outer s H vs Q E hr h => ?_)
  · obtain ⟨a, ns, rfl, _⟩ := h
    rfl
  obtain ⟨a, ns, rfl, h, h3, hn, q⟩ := h
  refine ⟨_, (pss_one (ps_ret (pe_and (pe_call cis_list.ok (hr.mono (by omega)) (by rfl) cis_list.mg cis_list.kp cis_list.b .nil pass0 (pa_cons (pv 0) pa_nil)) (pe_and (pe_cmpR op_eq (pe_callB call_len_seq (by rfl) T.len bt_len (pa_cons (pv 0) pa_nil)) pe_int (nomark _)) (pe_one (pe_callB (cr_all rfl) (by rfl) T.all bt_all (pa_cons (pe_lc (own := [("number", 1)]) (g := gName 1) (tt := tYes) (by rfl) scis_block_row.nd (pi_or (pi_list (pv 0)) (pi_tup (pv 0))) (show BlkOk Nis_block_row (defScope sis_block_row) _ _ from blkOk_by (by decide +kernel)) (fun _ _ _ _ _ => (pg_name (i := 1) scis_block_row.nd rfl (Or.inl rfl))) (fun _ _ _ _ _ => pts_nil) (fun _ _ _ _ _ => (pe_call cis_natural.ok (hr.mono (by omega)) (by rfl) cis_natural.mg cis_natural.kp cis_natural.b .nil pass0 (pa_cons (pv 1) pa_nil)))) pa_nil))))))), ?_⟩
  refine ⟨_, rfl, a, _, rfl, h, fun H1 s1 => ⟨true, rfl, iteT ?_⟩⟩
  refine ⟨_, rfl, a, _, rfl, (h.same s1).sq, rfl, true, ?_, iteT ?_⟩
  · rw [List.length_map, h3]
    rfl
  unfold tCB tCons
  refine lc_seq (xs := ns.map V.int) (fun R r => ⟨_, rfl, r⟩) (h.same s1) (fun D i H' => H1 D = none ∧ Same H1 H' ∧ H' D = some (.lst ((List.replicate i true).map V.bl))) (fun D nD => ⟨nD, same_new nD _, upd_same⟩) (fun D i H' z => z.2.1) ?_ ?_
  · rintro D i x H' nD hx ⟨_, s2, hD⟩
    obtain ⟨n, hi, rfl⟩ : ∃ n, ns[i]? = some n ∧ x = .int n := by
      rw [List.getElem?_map] at hx
      cases e : ns[i]? with
      | none => rw [e] at hx; cases hx
      | some n => rw [e] at hx; exact ⟨n, rfl, (Option.some.inj hx).symm⟩
    have hlt := (List.getElem?_eq_some_iff.mp hi).1
    refine ⟨rfl, yes_ ?_⟩
    refine ⟨_, rfl, n, rfl, hn n (List.mem_of_getElem? hi), fun H2 s3 => ⟨_, s3 _ _ hD, ?_, nD, Same.mut (s2.trans s3) nD, ?_⟩⟩
    · rw [List.length_map, List.length_replicate]
      exact sz_lt (by omega)
    · rw [upd_same, List.replicate_succ', List.map_append]
      rfl
  · rintro D H' nD ⟨_, s2, hD⟩
    refine ⟨D, _, rfl, SqL.of hD, ?_⟩
    have e : (List.replicate (ns.map V.int).length true).all id = true := by rw [List.all_eq_true]; intro b hb; exact List.eq_of_mem_replicate hb
    rw [e]
    exact q _ (s1.trans s2)
end
end K41

set_option maxHeartbeats 2000000
/-! K41B: stacks. -/
namespace K41
open PySem PySem.Spec PyProof.Rows L2
theorem mx_eq (i j : Int) : (if j > i then j else i) = max i j := by
  by_cases h : j > i
  · rw [if_pos h]; omega
  · rw [if_neg h]; omega
theorem int_at {ns : List Int} {i : Nat} {x : V} (h : (ns.map V.int)[i]? = some x) : ∃ n, ns[i]? = some n ∧ x = .int n := by
  rw [List.getElem?_map] at h
  cases e : ns[i]? with
  | none => rw [e] at h; cases h
  | some n => rw [e] at h; exact ⟨n, rfl, (Option.some.inj h).symm⟩
theorem ref_at {ns : List Addr} {i : Nat} {x : V} (h : (ns.map V.ref)[i]? = some x) : ∃ n, ns[i]? = some n ∧ x = .ref n := by
  rw [List.getElem?_map] at h
  cases e : ns[i]? with
  | none => rw [e] at h; cases h
  | some n => rw [e] at h; exact ⟨n, rfl, (Option.some.inj h).symm⟩
theorem at_len {α : Type} {l : List α} {i : Nat} {x : α} (h : l[i]? = some x) : i < l.length := (List.getElem?_eq_some_iff.mp h).1
theorem take_at {α : Type} {l : List α} {i : Nat} {x : α} (h : l[i]? = some x) : l.take (i + 1) = l.take i ++ [x] := by
  rw [List.take_add_one, h]
  rfl
theorem tgt_seq {K : PySem.W.Frag} {H : Hp} {σ : L2.St} {p : Addr} {xs : List V} {n : Nat} {t : TGs} {Q : L2.St → Hp → Prop} (h : IsSeq H p xs) (hl : xs.length = n) (ht : t xs σ H Q) : gUnl K n t (.ref p) σ H Q ∨ gTup K n t (.ref p) σ H Q := by
  rcases h with h | h
  · exact .inl ⟨p, xs, rfl, SqL.of h, hl, ht⟩
  · exact .inr ⟨p, xs, rfl, SqT.of h, hl, ht⟩
def rv (x : Row) : List V := [.int x.1, .int x.2.1, .int x.2.2]
/-- at r a list or a tuple of rows, each a list or a tuple -/
def RowsAt (H : Hp) (r : Addr) (rows : List Row) : Prop := ∃ ps : List Addr, IsSeq H r (ps.map V.ref) ∧ ps.length = rows.length ∧ ∀ (i : Nat) (p : Addr) (x : Row), ps[i]? = some p → rows[i]? = some x → IsSeq H p (rv x)
theorem RowsAt.same {H H' : Hp} {r : Addr} {rows : List Row} (h : RowsAt H r rows) (s : Same H H') : RowsAt H' r rows := by
  obtain ⟨ps, a, b, c⟩ := h
  exact ⟨ps, a.same s, b, fun i p x e1 e2 => (c i p x e1 e2).same s⟩
def RowsNn (rows : List Row) : Prop := ∀ x ∈ rows, 0 ≤ x.1 ∧ 0 ≤ x.2.1 ∧ 0 ≤ x.2.2
def StackRet (rows : List Row) (H : Hp) (Q : VK) : Prop := ∀ H' p t, Same H H' → H p = none → H t = none → H' p = some (.lst ((stk 0 0 rows).map V.int)) → H' t = some (.tup [.ref p, .int (stkE 0 0 rows)]) → Q (.ref t) H'
def spStack : Sp := fun vs H Q _ => ∃ (r : Addr) (rows : List Row), vs = [.ref r] ∧ RowsAt H r rows ∧ rows.length ≤ 1000 ∧ RowsNn rows ∧ StackRet rows H Q
/-- the law's own: a list of tuples -/
def spLawStack : Sp := fun vs H Q _ => ∃ (r : Addr) (rows : List Row) (ps : List Addr), vs = [.ref r] ∧ H r = some (.lst (ps.map V.ref)) ∧ ps.length = rows.length ∧ (∀ (i : Nat) (p : Addr) (x : Row), ps[i]? = some p → rows[i]? = some x → H p = some (.tup (rv x))) ∧ rows.length ≤ 1000 ∧ RowsNn rows ∧ StackRet rows H Q
section
variable {P : Program} {w : World} {K : PySem.W.Frag} {mg : Str → Option Value} {base : Heap} {f : Addr} {fd : FuncData} {f1 f2 f3 : Addr} {fd1 fd2 fd3 : FuncData}
theorem ok_stacked (T : Txt mg) (F : FnP K "stacked" sstacked f fd) (hm : mg "stacked" = some (.ref f)) : Cal P w K mg base 1 "stacked" ["rows"] spStack f fd := by
  refine cal_of F scstacked hm (fun _ _ _ _ _ _ us hl => match us, hl with | [_], _ => rfl) (fun vs H Q E h => ?_) (fun cdv A outer s H vs Q E hr h => ?_)
  · obtain ⟨r, rows, rfl, _⟩ := h
    rfl
  obtain ⟨r, rows, rfl, hR, hl, hn, q⟩ := h
  refine ⟨_, (pss_cons (ps_par3 (i := 1) (j := 2) (l := 3) (by rfl) scstacked.nd rfl rfl rfl (by decide) (by decide) (by decide) rfl rfl rfl (pa_cons (pe_lst pa_nil) (pa_cons pe_int (pa_cons pe_int pa_nil))) (by rfl))
      (pss_cons (ps_for PassesOwn.never rfl (pi_or (pi_list (pv 0)) (pi_tup (pv 0))) (pg_or (pg_unl rfl (pgs_cons (pg_name (i := 4) scstacked.nd rfl (Or.inl rfl)) (pgs_cons (pg_name (i := 5) scstacked.nd rfl (Or.inl rfl)) (pgs_cons (pg_name (i := 6) scstacked.nd rfl (Or.inl rfl)) pgs_nil)))) (pg_tup rfl (pgs_cons (pg_name (i := 4) scstacked.nd rfl (Or.inl rfl)) (pgs_cons (pg_name (i := 5) scstacked.nd rfl (Or.inl rfl)) (pgs_cons (pg_name (i := 6) scstacked.nd rfl (Or.inl rfl)) pgs_nil))))) (pss_cons (ps_expr (pe_bm PySem.F.plainAttrs_list PySem.F.slot_list_append PySem.F.type_list_append mt_append (pv 1) (pa_cons (pe_op op_add (pv 2) (pe_callB (call_max2 rfl) (by rfl) T.max bt_max (pa_cons (pv 3) (pa_cons (pv 4) pa_nil)))) pa_nil)))
      (pss_one (ps_par (i := 2) (j := 3) (by rfl) scstacked.nd rfl rfl (by decide) rfl rfl (pa_cons (pe_op op_add (pe_ix ix_list (pv 1) (pe_un un_neg pe_int) (fun _ _ => rfl)) (pv 5)) (pa_cons (pv 6) pa_nil)) (by rfl)))))
      (pss_one (ps_ret (pe_tup (pa_cons (pv 1) (pa_cons (pe_op op_add (pv 2) (pv 3)) pa_nil))))))), ?_⟩
  obtain ⟨ps, hS, hpl, hp⟩ := id hR
  -- begins, foot, ahead = ([], 0, 0)
  refine ⟨(by show 0 ≤ sizeLine; decide), fun b nb => ⟨_, _, _, rfl, ?_⟩⟩
  dsimp only [tSeq]
  refine for_seq (H0 := H) (xs := ps.map V.ref) (fun R h => ⟨_, rfl, h⟩) hS
    (fun i σ' H' => ∃ v4 v5 v6, σ' = [some (.ref r), some (.ref b), some (.int (stkF 0 0 (rows.take i))), some (.int (stkA 0 (rows.take i))), v4, v5, v6] ∧ Same H H' ∧ H' b = some (.lst ((stk 0 0 (rows.take i)).map V.int)))
    ⟨none, none, none, rfl, same_new nb _, upd_same⟩ (fun i σ' H' ⟨_, _, _, _, z, _⟩ => z) ?_ ?_
  · rintro i x σ' H' hx ⟨v4, v5, v6, rfl, s1, hb⟩
    obtain ⟨p, hpi, rfl⟩ := ref_at hx
    have hi : i < rows.length := by rw [← hpl]; exact at_len hpi
    have hxi : rows[i]? = some rows[i] := List.getElem?_eq_getElem hi
    generalize rows[i] = y at hxi
    have hy : IsSeq H' p (rv y) := (hp i p y hpi hxi).same s1
    have hlen : ((stk 0 0 (rows.take i)).map V.int).length < sizeLine := by
      rw [List.length_map, stk_len, List.length_take]
      exact sz_lt (by omega)
    refine tgt_seq hy rfl ⟨_, _, rfl, _, _, rfl, _, _, rfl, rfl, ?_⟩
    -- begins.append(foot + max(ahead, upper))
    refine ⟨_, rfl, .inl ⟨rfl, _, SqL.of hb⟩, _, rfl, _, rfl, _, rfl, _, _, rfl, _, _, rfl, rfl, b, _, _, rfl, rfl, hb, hlen, ?_⟩
    -- foot, ahead = begins[-1] + height, lower
    refine ⟨_, rfl, 1, rfl, b, _, _, _, rfl, rfl, SqL.of upd_same, atI_last _ _, _, rfl, _, _, rfl, rfl, _, rfl, _, _, rfl, ?_⟩
    rw [mx_eq]
    refine ⟨some (.int y.1), some (.int y.2.1), some (.int y.2.2), ?_, Same.mut s1 nb, ?_⟩
    · rw [take_at hxi, stkF_app, stkA_app]
      rfl
    · rw [upd_same, take_at hxi, stk_app, List.map_append]
      rfl
  · rintro σ' H' ⟨v4, v5, v6, rfl, s1, hb⟩
    have e : rows.take (ps.map V.ref).length = rows := List.take_of_length_le (by rw [List.length_map, hpl]; exact Nat.le_refl _)
    rw [e] at hb ⊢
    refine ⟨_, rfl, _, rfl, _, rfl, _, _, rfl, rfl, (by show 2 ≤ sizeLine; decide), fun t nt => ?_⟩
    exact q _ b t (s1.trans (same_new nt _)) nb (s1.free nt) (by rw [upd_ne (ne_of_none hb nt)]; exact hb) upd_same
theorem ok_stack_of (T : Txt mg) (cis_list : Cal P w K mg base 1 "is_list" ["thing"] spIsList f1 fd1) (cis_block_row : Cal P w K mg base 3 "is_block_row" ["thing"] spBlockRow f2 fd2) (cstacked : Cal P w K mg base 1 "stacked" ["rows"] spStack f3 fd3)
    (F : FnP K "stack_of" sstack_of f fd) (hm : mg "stack_of" = some (.ref f)) : Cal P w K mg base 4 "stack_of" ["rows"] spStack f fd := by
  refine cal_of F scstack_of hm (fun _ _ _ _ _ _ us hl => match us, hl with | [_], _ => rfl) (fun vs H Q E h => ?_) (fun cdv A outer s H vs Q E hr h => ?_)
  · obtain ⟨r, rows, rfl, _⟩ := h
    rfl
  obtain ⟨r, rows, rfl, hR, hl, hn, q⟩ := h
  refine ⟨_, (pss_cons (ps_if (pt_not (pt_val (pe_call cis_list.ok (hr.mono (by omega)) (by rfl) cis_list.mg cis_list.kp cis_list.b .nil pass0 (pa_cons (pv 0) pa_nil)))) (pss_one ps_never) pss_nil)
      (pss_cons (ps_for PassesOwn.never rfl (pi_or (pi_enum (by rfl) T.enumerate (pa_cons (pv 0) pa_nil)) (pi_enumT (by rfl) T.enumerate (pa_cons (pv 0) pa_nil))) (pg_tup rfl (pgs_cons (pg_name (i := 1) scstack_of.nd rfl (Or.inl rfl)) (pgs_cons (pg_name (i := 2) scstack_of.nd rfl (Or.inl rfl)) pgs_nil))) (pss_one (ps_if (pt_not (pt_val (pe_call cis_block_row.ok (hr.mono (by omega)) (by rfl) cis_block_row.mg cis_block_row.kp cis_block_row.b .nil pass0 (pa_cons (pv 2) pa_nil)))) (pss_one ps_never) pss_nil)))
      (pss_one (ps_ret (pe_call cstacked.ok (hr.mono (by omega)) (by rfl) cstacked.mg cstacked.kp cstacked.b .nil pass0 (pa_cons (pv 0) pa_nil)))))), ?_⟩
  obtain ⟨ps, hS, hpl, hp⟩ := id hR
  refine ⟨_, rfl, r, _, rfl, hS, fun H1 s1 => ⟨true, rfl, iteF ?_⟩⟩
  dsimp only [tSeq]
  refine for_enumS (H0 := H1) (xs := ps.map V.ref) (fun R h => ⟨_, rfl, h⟩) (hS.same s1) (fun i σ' H' => ∃ v1 v2, σ' = [some (.ref r), v1, v2] ∧ Same H1 H') ⟨none, none, rfl, Same.refl _⟩ (fun i σ' H' ⟨_, _, _, z⟩ => z) ?_ ?_
  · rintro i x T σ' H' hx ⟨v1, v2, rfl, s2⟩ nT
    obtain ⟨p, hpi, rfl⟩ := ref_at hx
    have hi : i < rows.length := by rw [← hpl]; exact at_len hpi
    have hxi : rows[i]? = some rows[i] := List.getElem?_eq_getElem hi
    generalize rows[i] = y at hxi
    obtain ⟨n1, n2, n3⟩ := hn y (List.mem_of_getElem? hxi)
    refine ⟨T, _, rfl, SqT.of upd_same, rfl, _, _, rfl, _, _, rfl, rfl, ?_⟩
    refine ⟨_, rfl, p, [y.1, y.2.1, y.2.2], rfl, ((hp i p y hpi hxi).same (s1.trans s2)).same (same_new nT _), rfl, ?_, fun H2 s3 => ⟨true, rfl, iteF ?_⟩⟩
    · intro z hz
      simp only [List.mem_cons, List.not_mem_nil, or_false] at hz
      rcases hz with rfl | rfl | rfl
      · exact n1
      · exact n2
      · exact n3
    exact ⟨_, _, rfl, (s2.trans (same_new nT _)).trans s3⟩
  · rintro σ' H' ⟨v1, v2, rfl, s2⟩
    refine ⟨_, rfl, r, rows, rfl, (hR.same s1).same s2, hl, hn, fun H2 p t s3 np nt hp ht => ?_⟩
    exact q H2 p t ((s1.trans s2).trans s3) ((s1.trans s2).free np) ((s1.trans s2).free nt) hp ht
theorem ok_law_stack (T : Txt mg) (F : FnP K "_law_stack" s_law_stack f fd) (hm : mg "_law_stack" = some (.ref f)) : Cal P w K mg base 1 "_law_stack" ["_law_rows"] spLawStack f fd := by
  refine cal_of F sc_law_stack hm (fun _ _ _ _ _ _ us hl => match us, hl with | [_], _ => rfl) (fun vs H Q E h => ?_) (fun cdv A outer s H vs Q E hr h => ?_)
  · obtain ⟨r, rows, ps, rfl, _⟩ := h
    rfl
  obtain ⟨r, rows, ps, rfl, hS, hpl, hp, hl, hn, q⟩ := h
  refine ⟨_, (pss_cons (ps_par3 (i := 1) (j := 2) (l := 3) (by rfl) sc_law_stack.nd rfl rfl rfl (by decide) (by decide) (by decide) rfl rfl rfl (pa_cons (pe_lst pa_nil) (pa_cons pe_int (pa_cons pe_int pa_nil))) (by rfl))
      (pss_cons (ps_for PassesOwn.never rfl (pi_enum (by rfl) T.enumerate (pa_cons (pv 0) pa_nil)) (pg_tup rfl (pgs_cons (pg_name (i := 4) sc_law_stack.nd rfl (Or.inl rfl)) (pgs_cons (pg_tup rfl (pgs_cons (pg_name (i := 5) sc_law_stack.nd rfl (Or.inl rfl)) (pgs_cons (pg_name (i := 6) sc_law_stack.nd rfl (Or.inl rfl)) (pgs_cons (pg_name (i := 7) sc_law_stack.nd rfl (Or.inl rfl)) pgs_nil)))) pgs_nil))) (pss_cons (ps_set (i := 2) sc_law_stack.nd rfl (Or.inl rfl) (pe_op op_add (pv 2) (pe_ifExp (pt_cmpR op_eq (pv 4) pe_int (nomark _)) (pv 5) (pe_callB (call_max2 rfl) (by rfl) T.max bt_max (pa_cons (pv 3) (pa_cons (pv 5) pa_nil))))))
      (pss_cons (ps_expr (pe_bm PySem.F.plainAttrs_list PySem.F.slot_list_append PySem.F.type_list_append mt_append (pv 1) (pa_cons (pv 2) pa_nil)))
      (pss_one (ps_par (i := 2) (j := 3) (by rfl) sc_law_stack.nd rfl rfl (by decide) rfl rfl (pa_cons (pe_op op_add (pv 2) (pv 6)) (pa_cons (pv 7) pa_nil)) (by rfl))))))
      (pss_one (ps_ret (pe_tup (pa_cons (pv 1) (pa_cons (pe_op op_add (pv 2) (pv 3)) pa_nil))))))), ?_⟩
  refine ⟨(by show 0 ≤ sizeLine; decide), fun b nb => ⟨_, _, _, rfl, ?_⟩⟩
  have s0 : Same H (upd H b (.lst [])) := same_new nb _
  refine ⟨_, rfl, r, _, rfl, SqL.of (s0 _ _ hS), for_it (walk_enum (xs := ps.map V.ref))
    (fun i σ' H' => ∃ v4 v5 v6 v7, σ' = [some (.ref r), some (.ref b), some (.int (stkF 0 0 (rows.take i))), some (.int (stkA 0 (rows.take i))), v4, v5, v6, v7] ∧ Same H H' ∧ H' b = some (.lst ((stk 0 0 (rows.take i)).map V.int)))
    ⟨none, none, none, none, rfl, s0, upd_same⟩ (fun i σ' H' _ ⟨_, _, _, _, _, z, _⟩ => SqL.of (z _ _ hS)) ?_ ?_⟩
  · rintro i x σ' H' H2 hil ⟨v4, v5, v6, v7, rfl, s1, hb⟩ ⟨T', y1, y2, rfl, nT, rfl, e1, e2⟩
    obtain rfl := (Option.some.inj e1).symm
    obtain ⟨p, hpi, rfl⟩ := ref_at e2
    have hi : i < rows.length := by rw [← hpl]; exact at_len hpi
    have hxi : rows[i]? = some rows[i] := List.getElem?_eq_getElem hi
    generalize rows[i] = y at hxi
    obtain ⟨n1, n2, n3⟩ := hn y (List.mem_of_getElem? hxi)
    have hy : H' p = some (.tup (rv y)) := s1 _ _ (hp i p y hpi hxi)
    have sT : Same H' (upd H' T' (.tup [.int (i : Nat), .ref p])) := same_new nT _
    have hlen : ((stk 0 0 (rows.take i)).map V.int).length < sizeLine := by
      rw [List.length_map, stk_len, List.length_take]
      exact sz_lt (by omega)
    refine ⟨T', _, rfl, SqT.of upd_same, rfl, _, _, rfl, _, _, rfl, ⟨p, _, rfl, SqT.of (sT _ _ hy), rfl, _, _, rfl, _, _, rfl, _, _, rfl, rfl, rfl, ?_⟩⟩
    have e1 : ∀ m : Int, m = max (stkA 0 (rows.take i)) y.1 → stkF 0 0 (rows.take (i + 1)) = stkF 0 0 (rows.take i) + m + y.2.1 ∧ stkA 0 (rows.take (i + 1)) = y.2.2 ∧ (stk 0 0 (rows.take (i + 1))).map V.int = (stk 0 0 (rows.take i)).map V.int ++ [.int (stkF 0 0 (rows.take i) + m)] := fun m hm => by
      rw [take_at hxi, stkF_app, stkA_app, stk_app, List.map_append, hm]
      exact ⟨rfl, rfl, rfl⟩
    -- found, y
    have hb2 := sT _ _ hb
    have nbT : b ≠ T' := ne_of_none hb nT
    refine ⟨_, rfl, _, rfl, rfl, _, rfl, ite2 (fun z => ⟨_, rfl, ?_⟩) (fun z => ⟨_, rfl, _, rfl, _, _, rfl, ?_⟩)⟩
    · have z1 : (i : Int) = 0 := V.int.inj (of_decide_eq_true z)
      have z2 : i = 0 := by omega
      have hm : y.1 = max (stkA 0 (rows.take i)) y.1 := by
        subst z2
        show y.1 = max 0 y.1
        omega
      obtain ⟨a1, a2, a3⟩ := e1 _ hm
      refine ⟨_, _, rfl, rfl, _, rfl, .inl ⟨rfl, _, SqL.of hb2⟩, _, rfl, b, _, _, rfl, rfl, hb2, hlen, ?_⟩
      refine ⟨_, rfl, _, rfl, _, _, rfl, rfl, _, rfl, _, _, rfl, some (.int i), some (.int y.1), some (.int y.2.1), some (.int y.2.2), ?_, Same.mut (s1.trans sT) nb, ?_⟩
      · rw [a1, a2]
        rfl
      · rw [upd_same, a3]
    · have hm := mx_eq (stkA 0 (rows.take i)) y.1
      obtain ⟨a1, a2, a3⟩ := e1 _ hm
      refine ⟨_, _, rfl, rfl, _, rfl, .inl ⟨rfl, _, SqL.of hb2⟩, _, rfl, b, _, _, rfl, rfl, hb2, hlen, ?_⟩
      refine ⟨_, rfl, _, rfl, _, _, rfl, rfl, _, rfl, _, _, rfl, some (.int i), some (.int y.1), some (.int y.2.1), some (.int y.2.2), ?_, Same.mut (s1.trans sT) nb, ?_⟩
      · rw [a1, a2]
        rfl
      · rw [upd_same, a3]
  · rintro σ' H' ⟨v4, v5, v6, v7, rfl, s1, hb⟩
    have e : rows.take (ps.map V.ref).length = rows := List.take_of_length_le (by rw [List.length_map, hpl]; exact Nat.le_refl _)
    rw [e] at hb ⊢
    refine ⟨_, rfl, _, rfl, _, rfl, _, _, rfl, rfl, (by show 2 ≤ sizeLine; decide), fun t nt => ?_⟩
    exact q _ b t (s1.trans (same_new nt _)) nb (s1.free nt) (by rw [upd_ne (ne_of_none hb nt)]; exact hb) upd_same
end
end K41

set_option maxHeartbeats 2000000
/-! K41C: sums of gaps; least, greatest, hills. -/
namespace K41
open PySem PySem.Spec PyProof.Rows L2
/-! ### plain -/
/-- margins falling -/
def sd (ns : List Int) : List Int := (ns.mergeSort (fun a b => decide (a ≤ b))).reverse
theorem up_sort (ns : List Int) : (ns.mergeSort (fun a b => decide (a ≤ b))).Pairwise (· ≤ ·) := by
  have h := List.pairwise_mergeSort (le := fun a b : Int => decide (a ≤ b)) (fun a b c h1 h2 => by
    have h1 := of_decide_eq_true h1
    have h2 := of_decide_eq_true h2
    exact decide_eq_true (by omega)) (fun a b => by
    by_cases h : a ≤ b
    · rw [decide_eq_true h]; rfl
    · rw [decide_eq_true (show b ≤ a by omega), Bool.or_true]) ns
  exact h.imp fun h => of_decide_eq_true h
theorem sort_eq {ns ns' : List Int} (p : ns'.Perm ns) (h : ns'.Pairwise (· ≤ ·)) : ns' = ns.mergeSort (fun a b => decide (a ≤ b)) :=
  List.Perm.eq_of_pairwise (le := fun a b : Int => a ≤ b) (fun a b _ _ h1 h2 => by omega) h (up_sort ns) (p.trans (List.mergeSort_perm ns _).symm)
theorem sd_perm (ns : List Int) : (sd ns).Perm ns := (List.reverse_perm _).trans (List.mergeSort_perm ns _)
theorem sd_down (ns : List Int) : (sd ns).Pairwise (· ≥ ·) := by
  unfold sd
  rw [List.pairwise_reverse]
  exact (up_sort ns).imp fun h => h
theorem sd_eq {ns row : List Int} (p : row.Perm ns) (h : row.Pairwise (· ≥ ·)) : row = sd ns :=
  List.Perm.eq_of_pairwise (le := fun a b : Int => a ≥ b) (fun a b _ _ h1 h2 => by omega) h (sd_down ns) (p.trans (sd_perm ns).symm)
theorem sd_len (ns : List Int) : (sd ns).length = ns.length := (sd_perm ns).length_eq
theorem zip_gp : ∀ (l : List Int) (a : Int), 0 ≤ a → Nn l → (List.zipWith max (a :: l) (l ++ [0])).sum = gp a l
  | [], a, ha, _ => by
    simp only [List.nil_append, List.zipWith_cons_cons, List.zipWith_nil_left, sum_cons', List.sum_nil, gp]
    omega
  | b :: l, a, ha, h => by
    have ih := zip_gp l b h.head h.tail
    rw [List.cons_append, List.zipWith_cons_cons, sum_cons', ih]
    rfl
theorem zip_tail : ∀ (r : List Int) (x z : Int), (x :: r).getLast? = some z → (List.zipWith max (x :: r) r).sum + z = gp x r
  | [], x, z, h => by
    have e : x = z := Option.some.inj h
    subst e
    show (0 : Int) + x = x
    omega
  | y :: r, x, z, h => by
    have h2 : (y :: r).getLast? = some z := by
      rw [List.getLast?_cons_cons] at h
      exact h
    have ih := zip_tail r y z h2
    rw [List.zipWith_cons_cons, sum_cons']
    show max x y + (List.zipWith max (y :: r) r).sum + z = max x y + gp y r
    omega
/-! ### slices -/
theorem cut_to (xs : List V) (h : Nat) : cutV xs none (some (h : Int)) = xs.take h := by
  unfold cutV
  rw [HT.sIx_none, HT.sIx_nat, List.drop_zero, Nat.sub_zero]
  by_cases e : h ≤ xs.length
  · rw [Nat.min_eq_left e]
  · rw [Nat.min_eq_right (by omega), List.take_of_length_le (Nat.le_refl _), List.take_of_length_le (by omega)]
theorem cut_from (xs : List V) (h : Nat) : cutV xs (some (h : Int)) none = xs.drop h := by
  unfold cutV
  rw [HT.sIx_none, HT.sIx_nat]
  by_cases e : h ≤ xs.length
  · rw [Nat.min_eq_left e, List.take_of_length_le (by rw [List.length_drop]; exact Nat.le_refl _)]
  · rw [Nat.min_eq_right (by omega), List.drop_of_length_le (Nat.le_refl _), List.drop_of_length_le (by omega)]
    simp
theorem cut_at (xs : List V) (h : Nat) : cutV xs (some (h : Int)) (some ((h : Int) + 1)) = (xs.drop h).take 1 := by
  unfold cutV
  have e0 : ((h : Int) + 1) = ((h + 1 : Nat) : Int) := by omega
  rw [e0, HT.sIx_nat, HT.sIx_nat]
  by_cases e : h + 1 ≤ xs.length
  · rw [Nat.min_eq_left (show h ≤ xs.length by omega), Nat.min_eq_left e, show h + 1 - h = 1 by omega]
  · rw [Nat.min_eq_right (show xs.length ≤ h + 1 by omega), Nat.min_eq_right (show xs.length ≤ h by omega), List.drop_of_length_le (Nat.le_refl _), List.drop_of_length_le (show xs.length ≤ h by omega)]
    simp
/-! ### lists compared -/
theorem dp_ints {K : PySem.W.Frag} {H : Hp} : ∀ ns : List Int, DpAll K H (ns.map V.int) (ns.map PyData.int)
  | [] => .nil
  | n :: ns => .cons (.int n) (dp_ints ns)
theorem eqv_ints : ∀ ns ms : List Int, PyData.eqvAll (ns.map PyData.int) (ms.map PyData.int) = decide (ns = ms)
  | [], [] => rfl
  | [], m :: ms => rfl
  | n :: ns, [] => rfl
  | n :: ns, m :: ms => by
    show (PyData.eqv (.int n) (.int m) && PyData.eqvAll (ns.map PyData.int) (ms.map PyData.int)) = _
    rw [eqv_ints ns ms]
    show ((n == m) && decide (ns = ms)) = _
    by_cases e : n = m
    · subst e
      simp
    · simp [e]
/-- two lists of ints compared -/
theorem eq_ints {K : PySem.W.Frag} {H : Hp} {a b : Addr} {ns ms : List Int} {Q : VK} (ha : SqL K H a (ns.map V.int)) (hb : SqL K H b (ms.map V.int)) (q : Q (.bl (decide (ns = ms))) H) : rEqD K (.ref a) (.ref b) H Q := by
  refine ⟨.list (ns.map PyData.int), .list (ms.map PyData.int), .lst ha (dp_ints ns), .lst hb (dp_ints ms), PySem.W.ke_shaped_ints ns, PySem.W.ke_shaped_ints ms, ?_⟩
  have e : PyData.eqv (.list (ns.map PyData.int)) (.list (ms.map PyData.int)) = decide (ns = ms) := eqv_ints ns ms
  rw [e]
  exact q
theorem ne_ints {K : PySem.W.Frag} {H : Hp} {a b : Addr} {ns ms : List Int} {Q : VK} (ha : SqL K H a (ns.map V.int)) (hb : SqL K H b (ms.map V.int)) (q : Q (.bl (!decide (ns = ms))) H) : rNeD K (.ref a) (.ref b) H Q := by
  refine ⟨.list (ns.map PyData.int), .list (ms.map PyData.int), .lst ha (dp_ints ns), .lst hb (dp_ints ms), PySem.W.ke_shaped_ints ns, PySem.W.ke_shaped_ints ms, ?_⟩
  have e : PyData.eqv (.list (ns.map PyData.int)) (.list (ms.map PyData.int)) = decide (ns = ms) := eqv_ints ns ms
  rw [e]
  exact q
/-! ### a comprehension over a zip of ints -/
abbrev LcD (J : It) (g : TG) (tt : TT) (te : TE) (vs : List Nat) (σ : L2.St) (H1 : Hp) (D : Addr) (Qd : Hp → Prop) : Prop := ∃ W : Nat → Nat → Hp → Prop, (∃ m, W 0 m (upd H1 D (.lst []))) ∧ ∀ i m H, W i m H →
  (J.stop i H ∧ Qd H) ∨ (J.go i H ∧ ∃ Nx : Hp → Prop, (∀ H', Nx H' → ∃ m', m' < m ∧ W (i + 1) m' H') ∧ ∀ x H', J.yld i H x H' → g x (wipe σ vs) H' fun σ2 H2 => wipe σ2 vs = wipe σ vs ∧ tt σ2 H2 fun b H3 =>
    if b = true then te σ2 H3 fun y H4 => ∃ acc, H4 D = some (.lst acc) ∧ acc.length < sizeLine ∧ Nx (upd H4 D (.lst (acc ++ [y]))) else Nx H3)
theorem lc_zip_int {K : PySem.W.Frag} {a b : Addr} {ms ks : List Int} {i j : Nat} {te : TE} {vs : List Nat} {σ : L2.St} {H : Hp} {D : Addr} {Qd : Hp → Prop} (nD : H D = none) (f : Int → Int → Int) (ha : H a = some (.lst (ms.map V.int))) (hb : H b = some (.lst (ks.map V.int)))
    (hw : ∀ x y, wipe (((wipe σ vs).set i (some x)).set j (some y)) vs = wipe σ vs) (he : ∀ (x y : Int) (H2 : Hp) (R : VK), R (.int (f x y)) H2 → te (((wipe σ vs).set i (some (.int x))).set j (some (.int y))) H2 R) (hz : ms.length < 1000000)
    (hd : ∀ H', Same H H' → H' D = some (.lst ((List.zipWith f ms ks).map V.int)) → Qd H') :
    LcD (Itz K a b) (gTup K 2 (gCons (gName i) (gCons (gName j) gNil))) tYes te vs σ H D Qd := by
  refine lc_it (walk_zip (K := K) (a := a) (b := b) (xs := ms.map V.int) (ys := ks.map V.int) rfl) (fun n H' => Same H H' ∧ H' D = some (.lst (((List.zipWith f ms ks).take n).map V.int))) ⟨same_new nD _, upd_same⟩ (fun n H' _ p => ⟨SqL.of (p.1 _ _ ha), SqL.of (p.1 _ _ hb)⟩) ?_ ?_
  · rintro n x H' H2 hn ⟨s1, hD⟩ ⟨T, y1, y2, rfl, nT, rfl, e1, e2⟩
    obtain ⟨m, hm, rfl⟩ := int_at e1
    obtain ⟨k, hk, rfl⟩ := int_at e2
    refine ⟨T, _, rfl, SqT.of upd_same, rfl, _, _, rfl, _, _, rfl, rfl, hw _ _, yes_ (he m k _ _ ?_)⟩
    have hz' : (List.zipWith f ms ks)[n]? = some (f m k) := by
      rw [List.getElem?_zipWith, hm, hk]
    refine ⟨_, (same_new nT _) _ _ hD, ?_, Same.mut (s1.trans (same_new nT _)) nD, ?_⟩
    · rw [List.length_map, List.length_take, List.length_zipWith]
      exact sz_lt (by omega)
    · rw [upd_same, take_at hz', List.map_append]
      rfl
  · rintro H' ⟨s1, hD⟩
    have e : (List.zipWith f ms ks).take (min (ms.map V.int).length (ks.map V.int).length) = List.zipWith f ms ks := List.take_of_length_le (by rw [List.length_zipWith, List.length_map, List.length_map]; exact Nat.le_refl _)
    rw [e] at hD
    exact hd H' s1 hD
/-! ### promises -/
def spLeast : Sp := fun vs H Q _ => ∃ (a : Addr) (ns : List Int), vs = [.ref a] ∧ IsSeq H a (ns.map V.int) ∧ Nn ns ∧ ns.length ≤ 1000 ∧ Ret (.int (lst ns)) H Q
def spGreatest : Sp := fun vs H Q _ => ∃ (a : Addr) (ns : List Int), vs = [.ref a] ∧ IsSeq H a (ns.map V.int) ∧ Nn ns ∧ ns.length ≤ 1000 ∧ Ret (.int (mst (sd ns))) H Q
def spIsLeast : Sp := fun vs H Q _ => ∃ (a : Addr) (ns : List Int), vs = [.ref a] ∧ IsSeq H a (ns.map V.int) ∧ Nn ns ∧ ns.length ≤ 1000 ∧ Ret (.bl (decide (gp 0 ns = lst ns))) H Q
def spGaps : Sp := fun vs H Q _ => ∃ (a : Addr) (ns : List Int), vs = [.ref a] ∧ H a = some (.lst (ns.map V.int)) ∧ Nn ns ∧ ns.length ≤ 1000 ∧ Ret (.int (gp 0 ns)) H Q
def spHill : Sp := fun vs H Q _ => ∃ (a : Addr) (ns : List Int), vs = [.ref a] ∧ H a = some (.lst (ns.map V.int)) ∧ Nn ns ∧ ns.length ≤ 1000 ∧ Ret (.bl (isHill ns)) H Q
def spMost : Sp := fun vs H Q _ => ∃ (a : Addr) (ns : List Int), vs = [.ref a] ∧ H a = some (.lst (ns.map V.int)) ∧ Nn ns ∧ ns.length ≤ 1000 ∧ Ret (.int (mst (sd ns))) H Q
section
variable {P : Program} {w : World} {K : PySem.W.Frag} {mg : Str → Option Value} {base : Heap} {f : Addr} {fd : FuncData} {f1 f2 f3 : Addr} {fd1 fd2 fd3 : FuncData}
theorem ok_least (T : Txt mg) (cchecked_margins : Cal P w K mg base 3 "checked_margins" ["margins"] spChecked f1 fd1) (F : FnP K "least_stack" sleast_stack f fd) (hm : mg "least_stack" = some (.ref f)) : Cal P w K mg base 4 "least_stack" ["margins"] spLeast f fd := by
  refine cal_of F scleast_stack hm (fun _ _ _ _ _ _ us hl => match us, hl with | [_], _ => rfl) (fun vs H Q E h => ?_) (fun cdv A outer s H vs Q E hr h => ?_)
  · obtain ⟨r, rows, rfl, _⟩ := h
    rfl
  obtain ⟨a, ns, rfl, hS, hn, hl, q⟩ := h
  refine ⟨_, (pss_cons (ps_set (i := 1) scleast_stack.nd rfl (Or.inl rfl) (pe_call cchecked_margins.ok (hr.mono (by omega)) (by rfl) cchecked_margins.mg cchecked_margins.kp cchecked_margins.b .nil pass0 (pa_cons (pv 0) pa_nil)))
      (pss_one (ps_ret (pe_op op_add (pe_callB (cr_sum rfl) (by rfl) T.sum bt_sum (pa_cons (pv 1) pa_nil)) (pe_callB (cr_max rfl) (by rfl) T.max bt_max (pa_cons (pe_op op_cat (pe_lst (pa_cons pe_int pa_nil)) (pv 1)) pa_nil)))))), ?_⟩
  refine ⟨_, rfl, a, ns, rfl, hS, hn, fun H1 p s1 np hp => ?_⟩
  refine ⟨_, rfl, p, ns, rfl, SqL.of hp, (by show 1 ≤ sizeLine; decide), fun l nl => ?_⟩
  generalize hH2 : upd H1 l _ = H2
  obtain ⟨s2, hl2⟩ := nw hH2 nl
  refine ⟨_, rfl, l, p, _, _, rfl, rfl, hl2, s2 _ _ hp, ?_, fun c nc => ?_⟩
  · rw [List.length_map]
    exact sz_le (by show 1 + ns.length ≤ _; omega)
  refine ⟨c, 0 :: ns, rfl, SqL.of upd_same, (by simp), fun m hm hg => ⟨_, _, rfl, rfl, ?_⟩⟩
  have e : m = mxr ns := by
    have := mxr_eq (l := 0 :: ns) (fun x hx => by
      rcases List.mem_cons.mp hx with rfl | hx
      · exact Int.le_refl 0
      · exact hn x hx) hm hg
    rw [this]
    have := @mxr_nn ns
    simp only [mxr]
    omega
  rw [e]
  exact q _ ((s1.trans s2).trans (same_new nc _))
theorem half_eq (n : Nat) : ((n : Int) + 1) / 2 = (((n + 1) / 2 : Nat) : Int) := by omega
theorem ok_greatest (T : Txt mg) (cchecked_margins : Cal P w K mg base 3 "checked_margins" ["margins"] spChecked f1 fd1) (F : FnP K "greatest_stack" sgreatest_stack f fd) (hm : mg "greatest_stack" = some (.ref f)) : Cal P w K mg base 4 "greatest_stack" ["margins"] spGreatest f fd := by
  refine cal_of F scgreatest_stack hm (fun _ _ _ _ _ _ us hl => match us, hl with | [_], _ => rfl) (fun vs H Q E h => ?_) (fun cdv A outer s H vs Q E hr h => ?_)
  · obtain ⟨r, rows, rfl, _⟩ := h
    rfl
  obtain ⟨a, ns, rfl, hS, hn, hl, q⟩ := h
  refine ⟨_, (pss_cons (ps_set (i := 1) scgreatest_stack.nd rfl (Or.inl rfl) (pe_revL (pe_callB cr_sortedI (by rfl) T.sorted bt_sorted (pa_cons (pe_call cchecked_margins.ok (hr.mono (by omega)) (by rfl) cchecked_margins.mg cchecked_margins.kp cchecked_margins.b .nil pass0 (pa_cons (pv 0) pa_nil)) pa_nil))))
      (pss_cons (ps_set (i := 2) scgreatest_stack.nd rfl (Or.inl rfl) (pe_op op_fdiv (pe_op op_add (pe_callB call_len_seq (by rfl) T.len bt_len (pa_cons (pv 1) pa_nil)) pe_int) pe_int))
      (pss_cons (ps_if (pt_cmpR op_eq (pe_op op_mod (pe_callB call_len_seq (by rfl) T.len bt_len (pa_cons (pv 1) pa_nil)) pe_int) pe_int (nomark _)) (pss_one (ps_ret (pe_op op_mul pe_int (pe_callB (cr_sum rfl) (by rfl) T.sum bt_sum (pa_cons (pe_slice sl_list (pv 1) po_none (po_some (pv 2))) pa_nil))))) pss_nil)
      (pss_one (ps_ret (pe_op op_add (pe_op op_mul pe_int (pe_callB (cr_sum rfl) (by rfl) T.sum bt_sum (pa_cons (pe_slice sl_list (pv 1) po_none (po_some (pv 2))) pa_nil))) (pe_callB (cr_sum rfl) (by rfl) T.sum bt_sum (pa_cons (pe_slice sl_list (pv 1) (po_some (pv 2)) (po_some (pe_op op_add (pv 2) pe_int))) pa_nil)))))))), ?_⟩
  refine ⟨_, rfl, a, ns, rfl, hS, hn, fun H1 p s1 np hp => ⟨p, ns, rfl, SqL.of hp, fun ns' p2 pe up n2 => ?_⟩⟩
  generalize hH2 : upd H1 p2 _ = H2
  obtain ⟨s2, hp2⟩ := nw hH2 n2
  refine ⟨p2, _, rfl, SqL.of hp2, fun p3 n3 => ?_⟩
  have er : ns'.reverse = sd ns := by
    unfold sd
    rw [← sort_eq pe up]
  rw [← List.map_reverse, er]
  generalize hH3 : upd H2 p3 _ = H3
  obtain ⟨s3, hp3⟩ := nw hH3 n3
  have hlen : ((sd ns).map V.int).length = ns.length := by rw [List.length_map, sd_len]
  -- half
  refine ⟨_, rfl, p3, _, rfl, .inl (SqL.of hp3), _, _, rfl, rfl, _, _, rfl, rfl, ⟨by decide, by decide⟩, ?_⟩
  dsimp only
  rw [hlen, half_eq]
  have fin : ∀ (H' : Hp), Same H3 H' → ∀ v, v = mst (sd ns) → Q (.int v) H' := fun H' s4 v hv => by
    rw [hv]
    exact q _ (((s1.trans s2).trans s3).trans s4)
  have eT : ∀ h : Nat, cutV ((sd ns).map V.int) none (some (h : Int)) = ((sd ns).take h).map V.int := fun h => by rw [cut_to, List.map_take]
  have eM : ∀ h : Nat, cutV ((sd ns).map V.int) (some (h : Int)) (some ((h : Int) + 1)) = (((sd ns).drop h).take 1).map V.int := fun h => by rw [cut_at, List.map_take, List.map_drop]
  refine ⟨_, rfl, p3, _, rfl, .inl (SqL.of hp3), _, _, rfl, rfl, (by show (0 : Int) < 2; decide), rfl, _, rfl, ite2 (fun z => ?_) (fun z => ?_)⟩
  · rw [hlen] at z
    have z1 : (ns.length : Int) % 2 = 1 := V.int.inj (of_decide_eq_true z)
    refine ⟨_, rfl, _, rfl, _, rfl, p3, _, rfl, SqL.of hp3, fun p4 n4 => ?_⟩
    rw [eT]
    refine ⟨p4, _, rfl, SqL.of upd_same, _, _, rfl, rfl, .inl ⟨by decide, by decide⟩, ?_⟩
    refine fin _ (same_new n4 _) _ ?_
    unfold mst
    rw [sd_len, if_pos (by omega)]
  · rw [hlen] at z
    have z1 : ¬ (ns.length : Int) % 2 = 1 := fun e => z (decide_eq_true (congrArg V.int e))
    refine ⟨_, rfl, _, rfl, _, rfl, p3, _, rfl, SqL.of hp3, fun p4 n4 => ?_⟩
    rw [eT]
    generalize hH4 : upd H3 p4 _ = H4
    obtain ⟨s4, hp4⟩ := nw hH4 n4
    refine ⟨p4, _, rfl, SqL.of hp4, _, _, rfl, rfl, .inl ⟨by decide, by decide⟩, ?_⟩
    refine ⟨_, rfl, _, rfl, _, rfl, _, rfl, _, _, rfl, rfl, _, rfl, p3, _, rfl, SqL.of (s4 _ _ hp3), fun p5 n5 => ?_⟩
    rw [eM]
    refine ⟨p5, _, rfl, SqL.of upd_same, _, _, rfl, rfl, ?_⟩
    refine fin _ (s4.trans (same_new n5 _)) _ ?_
    unfold mst
    rw [sd_len, if_neg (by omega)]
end
end K41

set_option maxHeartbeats 2000000
/-! K41D: is_least_order, gaps, hills, most. -/
namespace K41
open PySem PySem.Spec PyProof.Rows L2
section
variable {P : Program} {w : World} {K : PySem.W.Frag} {mg : Str → Option Value} {base : Heap} {f : Addr} {fd : FuncData} {f1 f2 f3 : Addr} {fd1 fd2 fd3 : FuncData}
theorem ok_is_least (T : Txt mg) (cchecked_margins : Cal P w K mg base 3 "checked_margins" ["margins"] spChecked f1 fd1) (F : FnP K "is_least_order" sis_least_order f fd) (hm : mg "is_least_order" = some (.ref f)) : Cal P w K mg base 4 "is_least_order" ["margins"] spIsLeast f fd := by
  refine cal_of F scis_least_order hm (fun _ _ _ _ _ _ us hl => match us, hl with | [_], _ => rfl) (fun vs H Q E h => ?_) (fun cdv A outer s H vs Q E hr h => ?_)
  · obtain ⟨r, rows, rfl, _⟩ := h
    rfl
  obtain ⟨a, ns, rfl, hS, hn, hl, q⟩ := h
  refine ⟨_, (pss_cons (ps_set (i := 1) scis_least_order.nd rfl (Or.inl rfl) (pe_call cchecked_margins.ok (hr.mono (by omega)) (by rfl) cchecked_margins.mg cchecked_margins.kp cchecked_margins.b .nil pass0 (pa_cons (pv 0) pa_nil)))
      (pss_cons (ps_setLc (i := 2) (own := [("one", 3), ("two", 4)]) (g := gTup K 2 (gCons (gName 3) (gCons (gName 4) (gNil)))) (tt := tYes) rfl scis_least_order.nd rfl rfl (sw_true rfl rfl rfl (by decide +kernel)) (pi_zip (by rfl) T.zip (pa_cons (pe_op op_cat (pe_lst (pa_cons pe_int pa_nil)) (pv 1)) (pa_cons (pe_op op_cat (pv 1) (pe_lst (pa_cons pe_int pa_nil))) pa_nil))) (show BlkOk Nis_least_order (defScope sis_least_order) _ _ from blkOk_by (by decide +kernel)) (fun _ _ _ _ _ => (pg_tup rfl (pgs_cons (pg_name (i := 3) scis_least_order.nd rfl (Or.inl rfl)) (pgs_cons (pg_name (i := 4) scis_least_order.nd rfl (Or.inl rfl)) pgs_nil)))) (fun _ _ _ _ _ => pts_nil) (fun _ _ _ _ _ => (pe_callB (call_max2 rfl) (by rfl) T.max bt_max (pa_cons (pv 3) (pa_cons (pv 4) pa_nil)))))
      (pss_one (ps_ret (pe_or (pe_cmpR (op_eqD hr.units) (pv 1) (pe_lst pa_nil) (nomark _)) (pe_one (pe_cmpR op_eq (pe_callB (cr_sum rfl) (by rfl) T.sum bt_sum (pa_cons (pv 2) pa_nil)) (pe_op op_add (pe_callB (cr_sum rfl) (by rfl) T.sum bt_sum (pa_cons (pv 1) pa_nil)) (pe_callB (cr_max rfl) (by rfl) T.max bt_max (pa_cons (pv 1) pa_nil))) (nomark _)))))))), ?_⟩
  refine ⟨_, rfl, a, ns, rfl, hS, hn, fun H1 p s1 np hp => ?_⟩
  have sz1 : ∀ x : Int, [V.int x].length + (ns.map V.int).length ≤ sizeLine := fun x => by
    rw [List.length_map]
    exact sz_le (by show 1 + ns.length ≤ _; omega)
  -- zip([0] + held, held + [0])
  refine ⟨(by show 1 ≤ sizeLine; decide), fun l nl => ?_⟩
  generalize hH2 : upd H1 l _ = H2
  obtain ⟨s2, hl2⟩ := nw hH2 nl
  refine ⟨_, rfl, l, p, _, _, rfl, rfl, hl2, s2 _ _ hp, sz1 0, fun c nc => ?_⟩
  generalize hH3 : upd H2 c _ = H3
  obtain ⟨s3, hc⟩ := nw hH3 nc
  refine ⟨_, rfl, (by show 1 ≤ sizeLine; decide), fun l2 nl2 => ?_⟩
  generalize hH4 : upd H3 l2 _ = H4
  obtain ⟨s4, hl4⟩ := nw hH4 nl2
  have hp4 := (s2.trans (s3.trans s4)) _ _ hp
  refine ⟨p, l2, _, _, rfl, rfl, hp4, hl4, ?_, fun c2 nc2 => ?_⟩
  · rw [Nat.add_comm]
    exact sz1 0
  generalize hH5 : upd H4 c2 _ = H5
  obtain ⟨s5, hc2⟩ := nw hH5 nc2
  have hc5 : H5 c = some (.lst ((0 :: ns).map V.int)) := (s4.trans s5) _ _ hc
  have hd5 : H5 c2 = some (.lst ((ns ++ [0]).map V.int)) := by
    rw [hc2, List.map_append]
    rfl
  refine ⟨c, c2, _, _, rfl, SqL.of hc5, SqL.of hd5, fun D nD => lc_zip_int nD max hc5 hd5 (fun _ _ => rfl) (fun x y H6 R r => ⟨_, rfl, _, rfl, x, y, rfl, by rw [mx_eq]; exact r⟩) (by simp only [List.length_cons]; omega) fun H6 s6 hD => ?_⟩
  have hp6 := (s5.trans s6) _ _ hp4
  have s16 : Same H H6 := s1.trans (s2.trans (s3.trans (s4.trans (s5.trans s6))))
  have eg := zip_gp ns 0 (Int.le_refl 0) hn
  -- held == [] or sum(gaps) == sum(held) + max(held)
  refine ⟨_, rfl, Nat.zero_le _, fun e ne => ?_⟩
  generalize hH7 : upd H6 e _ = H7
  obtain ⟨s7, he⟩ := nw hH7 ne
  refine eq_ints (ns := ns) (ms := []) (SqL.of (s7 _ _ hp6)) (SqL.of he) ⟨_, rfl, ite2 (fun z => ?_) (fun z => ?_)⟩
  · have z := of_decide_eq_true z
    subst z
    have e1 : decide (gp 0 ([] : List Int) = lst []) = true := by decide
    rw [e1] at q
    exact q _ (s16.trans s7)
  · have z : ns ≠ [] := fun y => z (decide_eq_true y)
    have hpos : 0 < ns.length := List.length_pos_iff.mpr z
    refine ⟨_, rfl, D, _, rfl, SqL.of (s7 _ _ hD), _, rfl, p, ns, rfl, SqL.of (s7 _ _ hp6), _, rfl, p, ns, rfl, SqL.of (s7 _ _ hp6), hpos, fun m hm hg => ⟨_, _, rfl, rfl, rfl, ?_⟩⟩
    rw [eg, mxr_eq hn hm hg]
    have e1 : decide (V.int (gp 0 ns) = V.int (ns.sum + mxr ns)) = decide (gp 0 ns = lst ns) := by
      unfold lst
      by_cases y : gp 0 ns = ns.sum + mxr ns
      · rw [y, decide_eq_true rfl, decide_eq_true rfl]
      · rw [decide_eq_false y, decide_eq_false (fun u => y (V.int.inj u))]
    rw [e1]
    exact q _ (s16.trans s7)
theorem ok_gaps (T : Txt mg) (F : FnP K "_law_gaps" s_law_gaps f fd) (hm : mg "_law_gaps" = some (.ref f)) : Cal P w K mg base 1 "_law_gaps" ["_law_margins"] spGaps f fd := by
  refine cal_of F sc_law_gaps hm (fun _ _ _ _ _ _ us hl => match us, hl with | [_], _ => rfl) (fun vs H Q E h => ?_) (fun cdv A outer s H vs Q E hr h => ?_)
  · obtain ⟨r, rows, rfl, _⟩ := h
    rfl
  obtain ⟨a, ns, rfl, ha, hn, hl, q⟩ := h
  refine ⟨_, (pss_cons (ps_if (pt_cmpR (op_eqD hr.units) (pv 0) (pe_lst pa_nil) (nomark _)) (pss_one (ps_ret pe_int)) pss_nil)
      (pss_one (ps_ret (pe_op op_add (pe_op op_add (pe_ix ix_list (pv 0) pe_int (fun _ _ => rfl)) (pe_ix ix_list (pv 0) (pe_un un_neg pe_int) (fun _ _ => rfl))) (pe_callB (cr_sum rfl) (by rfl) T.sum bt_sum (pa_cons (pe_lc (own := [("_law_one", 1), ("_law_other", 2)]) (g := gTup K 2 (gCons (gName 1) (gCons (gName 2) (gNil)))) (tt := tYes) (by rfl) sc_law_gaps.nd (pi_zip (by rfl) T.zip (pa_cons (pv 0) (pa_cons (pe_slice sl_list (pv 0) (po_some pe_int) po_none) pa_nil))) (show BlkOk N_law_gaps (defScope s_law_gaps) _ _ from blkOk_by (by decide +kernel)) (fun _ _ _ _ _ => (pg_tup rfl (pgs_cons (pg_name (i := 1) sc_law_gaps.nd rfl (Or.inl rfl)) (pgs_cons (pg_name (i := 2) sc_law_gaps.nd rfl (Or.inl rfl)) pgs_nil)))) (fun _ _ _ _ _ => pts_nil) (fun _ _ _ _ _ => (pe_callB (call_max2 rfl) (by rfl) T.max bt_max (pa_cons (pv 1) (pa_cons (pv 2) pa_nil))))) pa_nil)))))), ?_⟩
  refine ⟨_, rfl, Nat.zero_le _, fun e ne => ?_⟩
  generalize hH1 : upd H e _ = H1
  obtain ⟨s1, he⟩ := nw hH1 ne
  have ha1 := s1 _ _ ha
  refine eq_ints (ns := ns) (ms := []) (SqL.of ha1) (SqL.of he) ⟨_, rfl, ite2 (fun z => ?_) (fun z => ?_)⟩
  · have z := of_decide_eq_true z
    subst z
    exact q _ s1
  · have z : ns ≠ [] := fun y => z (decide_eq_true y)
    obtain ⟨x, r, rfl⟩ : ∃ x r, ns = x :: r := by
      cases ns with
      | nil => exact absurd rfl z
      | cons x r => exact ⟨x, r, rfl⟩
    have hz : ((x :: r).map V.int) = ((x :: r).dropLast.map V.int) ++ [.int ((x :: r).getLast (List.cons_ne_nil _ _))] := by
      rw [← List.map_singleton, ← List.map_append, List.dropLast_concat_getLast]
    have gl : atI ((x :: r).map V.int) (-1) = some (.int ((x :: r).getLast (List.cons_ne_nil _ _))) := by
      rw [hz]
      exact atI_last _ _
    refine ⟨_, rfl, a, _, 0, .int x, rfl, rfl, SqL.of ha1, atI_nat (j := 0) rfl, _, rfl, 1, rfl, a, _, _, _, rfl, rfl, SqL.of ha1, gl, _, _, rfl, rfl, ?_⟩
    refine ⟨_, rfl, _, rfl, _, rfl, a, _, rfl, SqL.of ha1, fun c nc => ?_⟩
    rw [show cutV ((x :: r).map V.int) (some 1) none = r.map V.int from cut_from _ 1]
    generalize hH2 : upd H1 c _ = H2
    obtain ⟨s2, hc⟩ := nw hH2 nc
    have ha2 := s2 _ _ ha1
    refine ⟨a, c, _, _, rfl, SqL.of ha2, SqL.of hc, fun D nD => lc_zip_int nD max ha2 hc (fun _ _ => rfl) (fun y z H6 R r => ⟨_, rfl, _, rfl, y, z, rfl, by rw [mx_eq]; exact r⟩) (by omega) fun H3 s3 hD => ?_⟩
    refine ⟨D, _, rfl, SqL.of hD, _, _, rfl, rfl, ?_⟩
    have e1 := zip_tail r x _ (List.getLast?_eq_getLast (List.cons_ne_nil x r))
    have e2 : x + (x :: r).getLast (List.cons_ne_nil x r) + (List.zipWith max (x :: r) r).sum = gp 0 (x :: r) := by
      have := hn.head
      show _ = max 0 x + gp x r
      omega
    show Q (.int (x + (x :: r).getLast (List.cons_ne_nil x r) + (List.zipWith max (x :: r) r).sum)) H3
    rw [e2]
    exact q _ (s1.trans (s2.trans s3))
theorem ok_most (T : Txt mg) (F : FnP K "_law_most" s_law_most f fd) (hm : mg "_law_most" = some (.ref f)) : Cal P w K mg base 1 "_law_most" ["_law_margins"] spMost f fd := by
  refine cal_of F sc_law_most hm (fun _ _ _ _ _ _ us hl => match us, hl with | [_], _ => rfl) (fun vs H Q E h => ?_) (fun cdv A outer s H vs Q E hr h => ?_)
  · obtain ⟨r, rows, rfl, _⟩ := h
    rfl
  obtain ⟨a, ns, rfl, ha, hn, hl, q⟩ := h
  refine ⟨_, (pss_cons (ps_par (i := 1) (j := 2) (by rfl) sc_law_most.nd rfl rfl (by decide) rfl rfl (pa_cons (pe_revL (pe_callB cr_sortedI (by rfl) T.sorted bt_sorted (pa_cons (pv 0) pa_nil))) (pa_cons (pe_callTy call_int1 (by rfl) T.int bt_int (pa_cons (pe_op op_fdiv (pe_op op_add (pe_callB call_len_seq (by rfl) T.len bt_len (pa_cons (pv 0) pa_nil)) pe_int) pe_int) pa_nil)) pa_nil)) (by rfl))
      (pss_cons (ps_if (pt_cmpR op_eq (pe_op op_mod (pe_callB call_len_seq (by rfl) T.len bt_len (pa_cons (pv 0) pa_nil)) pe_int) pe_int (nomark _)) (pss_one (ps_ret (pe_op op_mul pe_int (pe_callB (cr_sum rfl) (by rfl) T.sum bt_sum (pa_cons (pe_slice sl_list (pv 1) po_none (po_some (pv 2))) pa_nil))))) pss_nil)
      (pss_one (ps_ret (pe_op op_add (pe_op op_mul pe_int (pe_callB (cr_sum rfl) (by rfl) T.sum bt_sum (pa_cons (pe_slice sl_list (pv 1) po_none (po_some (pv 2))) pa_nil))) (pe_callB (cr_sum rfl) (by rfl) T.sum bt_sum (pa_cons (pe_slice sl_list (pv 1) (po_some (pv 2)) (po_some (pe_op op_add (pv 2) pe_int))) pa_nil))))))), ?_⟩
  refine ⟨_, rfl, a, ns, rfl, SqL.of ha, fun ns' p2 pe up n2 => ?_⟩
  generalize hH2 : upd H p2 _ = H2
  obtain ⟨s2, hp2⟩ := nw hH2 n2
  refine ⟨p2, _, rfl, SqL.of hp2, fun p3 n3 => ?_⟩
  have er : ns'.reverse = sd ns := by
    unfold sd
    rw [← sort_eq pe up]
  rw [← List.map_reverse, er]
  generalize hH3 : upd H2 p3 _ = H3
  obtain ⟨s3, hp3⟩ := nw hH3 n3
  have ha3 := (s2.trans s3) _ _ ha
  have hlen : (ns.map V.int).length = ns.length := List.length_map _
  refine ⟨_, rfl, a, _, rfl, .inl (SqL.of ha3), _, _, rfl, rfl, _, _, rfl, rfl, ⟨by decide, by decide⟩, .inl ⟨_, rfl, _, _, rfl, ?_⟩⟩
  dsimp only
  rw [hlen, half_eq]
  have fin : ∀ (H' : Hp), Same H3 H' → ∀ v, v = mst (sd ns) → Q (.int v) H' := fun H' s4 v hv => by
    rw [hv]
    exact q _ ((s2.trans s3).trans s4)
  have eT : ∀ h : Nat, cutV ((sd ns).map V.int) none (some (h : Int)) = ((sd ns).take h).map V.int := fun h => by rw [cut_to, List.map_take]
  have eM : ∀ h : Nat, cutV ((sd ns).map V.int) (some (h : Int)) (some ((h : Int) + 1)) = (((sd ns).drop h).take 1).map V.int := fun h => by rw [cut_at, List.map_take, List.map_drop]
  refine ⟨_, rfl, a, _, rfl, .inl (SqL.of ha3), _, _, rfl, rfl, (by show (0 : Int) < 2; decide), rfl, _, rfl, ite2 (fun z => ?_) (fun z => ?_)⟩
  · rw [hlen] at z
    have z1 : (ns.length : Int) % 2 = 1 := V.int.inj (of_decide_eq_true z)
    refine ⟨_, rfl, _, rfl, _, rfl, p3, _, rfl, SqL.of hp3, fun p4 n4 => ?_⟩
    rw [eT]
    refine ⟨p4, _, rfl, SqL.of upd_same, _, _, rfl, rfl, .inl ⟨by decide, by decide⟩, ?_⟩
    refine fin _ (same_new n4 _) _ ?_
    unfold mst
    rw [sd_len, if_pos (by omega)]
  · rw [hlen] at z
    have z1 : ¬ (ns.length : Int) % 2 = 1 := fun e => z (decide_eq_true (congrArg V.int e))
    refine ⟨_, rfl, _, rfl, _, rfl, p3, _, rfl, SqL.of hp3, fun p4 n4 => ?_⟩
    rw [eT]
    generalize hH4 : upd H3 p4 _ = H4
    obtain ⟨s4, hp4⟩ := nw hH4 n4
    refine ⟨p4, _, rfl, SqL.of hp4, _, _, rfl, rfl, .inl ⟨by decide, by decide⟩, ?_⟩
    refine ⟨_, rfl, _, rfl, _, rfl, _, rfl, _, _, rfl, rfl, _, rfl, p3, _, rfl, SqL.of (s4 _ _ hp3), fun p5 n5 => ?_⟩
    rw [eM]
    refine ⟨p5, _, rfl, SqL.of upd_same, _, _, rfl, rfl, ?_⟩
    refine fin _ (s4.trans (same_new n5 _)) _ ?_
    unfold mst
    rw [sd_len, if_neg (by omega)]
theorem ok_hill (T : Txt mg) (F : FnP K "_law_is_hill" s_law_is_hill f fd) (hm : mg "_law_is_hill" = some (.ref f)) : Cal P w K mg base 1 "_law_is_hill" ["_law_margins"] spHill f fd := by
  refine cal_of F sc_law_is_hill hm (fun _ _ _ _ _ _ us hl => match us, hl with | [_], _ => rfl) (fun vs H Q E h => ?_) (fun cdv A outer s H vs Q E hr h => ?_)
  · obtain ⟨r, rows, rfl, _⟩ := h
    rfl
  obtain ⟨a, ns, rfl, ha, hn, hl, q⟩ := h
  refine ⟨_, (pss_cons (ps_set (i := 1) sc_law_is_hill.nd rfl (Or.inl rfl) pe_bl)
      (pss_cons (ps_for PassesOwn.never rfl (pi_zip (by rfl) T.zip (pa_cons (pv 0) (pa_cons (pe_slice sl_list (pv 0) (po_some pe_int) po_none) pa_nil))) (pg_tup rfl (pgs_cons (pg_name (i := 2) sc_law_is_hill.nd rfl (Or.inl rfl)) (pgs_cons (pg_name (i := 3) sc_law_is_hill.nd rfl (Or.inl rfl)) pgs_nil))) (pss_cons (ps_if (PW.pt (pw_and (pt_val (pv 1)) (pw_and1 (pt_cmpR op_gt (pv 3) (pv 2) (nomark _))))) (pss_one (ps_ret pe_bl)) pss_nil)
      (pss_one (ps_set (i := 1) sc_law_is_hill.nd rfl (Or.inl rfl) (pe_or (pv 1) (pe_one (pe_cmpR op_lt (pv 3) (pv 2) (nomark _))))))))
      (pss_one (ps_ret pe_bl)))), ?_⟩
  refine ⟨_, rfl, _, rfl, _, rfl, a, _, rfl, SqL.of ha, fun c nc => ?_⟩
  rw [show cutV (ns.map V.int) (some 1) none = (ns.drop 1).map V.int from (cut_from _ 1).trans List.map_drop.symm]
  generalize hH2 : upd H c _ = H2
  obtain ⟨s2, hc⟩ := nw hH2 nc
  have ha2 := s2 _ _ ha
  refine ⟨a, c, _, _, rfl, SqL.of ha2, SqL.of hc, for_it (walk_zip (K := K) (a := a) (b := c) (xs := ns.map V.int) (ys := (ns.drop 1).map V.int) rfl)
    (fun i σ' H' => ∃ d v2 v3, σ' = [some (.ref a), some (.bl d), v2, v3] ∧ Same H2 H' ∧ ∀ x r, ns.drop i = x :: r → isHill ns = hillB d x r) ⟨false, none, none, rfl, Same.refl _, fun x r e => ?_⟩ (fun i σ' H' _ ⟨_, _, _, _, z, _⟩ => ⟨SqL.of (z _ _ ha2), SqL.of (z _ _ hc)⟩) ?_ ?_⟩
  · rw [List.drop_zero] at e
    rw [e]
    rfl
  · rintro i v σ' H' H3 hi ⟨d, v2, v3, rfl, s3, hh⟩ ⟨T', y1, y2, rfl, nT, rfl, e1, e2⟩
    obtain ⟨m, hm, rfl⟩ := int_at e1
    obtain ⟨k, hk, rfl⟩ := int_at e2
    rw [List.getElem?_drop] at hk
    have hi1 : i < ns.length := at_len hm
    have hi2 : 1 + i < ns.length := at_len hk
    have d1 : ns.drop i = m :: ns.drop (i + 1) := by
      rw [List.drop_eq_getElem_cons hi1]
      rw [List.getElem?_eq_getElem hi1] at hm
      rw [Option.some.inj hm]
    have d2 : ns.drop (i + 1) = k :: ns.drop (i + 1 + 1) := by
      have hi3 : i + 1 < ns.length := by omega
      rw [List.drop_eq_getElem_cons hi3]
      rw [Nat.add_comm 1 i, List.getElem?_eq_getElem hi3] at hk
      rw [Option.some.inj hk]
    have e3 := hh m _ d1
    rw [d2] at e3
    have sT := s3.trans (same_new nT (.tup [.int m, .int k]))
    refine ⟨T', _, rfl, SqT.of upd_same, rfl, _, _, rfl, _, _, rfl, rfl, ?_⟩
    refine ⟨_, rfl, d, rfl, ite2 (fun z => ?_) (fun z => ?_)⟩
    · refine ⟨_, rfl, _, rfl, k, m, rfl, rfl, _, rfl, ite2 (fun y => ?_) (fun y => ?_)⟩
      · show Q (.bl false) _
        have e4 : isHill ns = false := by
          rw [e3]
          simp only [hillB]
          have y1 : m < k := of_decide_eq_true y
          rw [if_pos (by rw [z, decide_eq_true (show k > m from y1)]; rfl)]
        rw [e4] at q
        exact q _ (s2.trans sT)
      · refine ⟨_, rfl, d, rfl, ite2 (fun z2 => ?_) (fun z2 => absurd z z2)⟩
        refine ⟨true, some (.int m), some (.int k), ?_, sT, fun x r er => ?_⟩
        · rfl
        · rw [d2] at er
          injection er with er1 er2
          have y1 : ¬ k > m := fun w => y (decide_eq_true w)
          rw [e3]
          simp only [hillB]
          rw [if_neg (by rw [z, decide_eq_false y1]; exact Bool.false_ne_true), z, Bool.true_or, ← er1, ← er2]
    · have z : d = false := by
        cases d with
        | true => exact absurd rfl z
        | false => rfl
      subst z
      refine ⟨_, rfl, false, rfl, iteF ?_⟩
      refine ⟨_, rfl, _, rfl, k, m, rfl, rfl, decide (k < m), some (.int m), some (.int k), rfl, sT, fun x r er => ?_⟩
      rw [d2] at er
      injection er with er1 er2
      rw [e3]
      simp only [hillB]
      rw [if_neg (by rw [Bool.false_and]; exact Bool.false_ne_true), Bool.false_or, ← er1, ← er2]
  · rintro σ' H' ⟨d, v2, v3, rfl, s3, hh⟩
    have e4 : isHill ns = true := by
      cases ns with
      | nil => rfl
      | cons x r =>
        have hmin : min ((x :: r).map V.int).length (((x :: r).drop 1).map V.int).length = r.length := by
          simp
        rw [hmin] at hh
        have hdr : (x :: r).drop r.length = [(x :: r).getLast (List.cons_ne_nil x r)] := by
          rw [List.drop_eq_getElem_cons (show r.length < (x :: r).length by simp), List.drop_of_length_le (by simp), List.getLast_eq_getElem]
          rfl
        exact (hh _ _ hdr).trans rfl
    show Q (.bl true) H'
    rw [e4] at q
    exact q _ (s2.trans s3)
end
end K41

set_option maxHeartbeats 2000000
/-! K41E: the draws. -/
namespace K41
open PySem PySem.Spec PyProof.Rows L2
/-- a statement, then the rest, with a word between them -/
def tCut (t u : TS) : TS := fun D σ H => ∃ Mid : L2.St → Hp → Prop, t { D with nx := Mid } σ H ∧ ∀ σ' H', Mid σ' H' → u D σ' H'
theorem pss_cut {X : Cx} {st : Stmt} {rest : List Stmt} {t u : TS} (h1 : PS X st t) (h2 : PSs X rest u) : PSs X (st :: rest) (tCut t u) := by
  refine ⟨fun pins s σ H D I h => ?_⟩
  obtain ⟨Mid, hm, hu⟩ := h
  refine wpAny_execs_cons (thn (h1.run pins s σ H { D with nx := Mid } I hm) fun f s1 q => ?_)
  cases f with
  | next =>
    obtain ⟨σ', H', I', q⟩ := q
    exact h2.run pins s1 σ' H' D I' (hu σ' H' q)
  | ret v => exact q
  | brk => exact q
  | cont => exact q
section
variable {X : Cx} {K : PySem.W.Frag}
theorem slLK (h : X.K = K) : SlR X (rSlL K) := by subst h; exact sl_list
theorem ixLK (h : X.K = K) : IxR X (rIxL K) := by subst h; exact ix_list
theorem lenK (h : X.K = K) : CallR X (.builtin "len") (fun xs H Q => ∃ p ys, xs = [.ref p] ∧ (SqL K H p ys ∨ SqT K H p ys) ∧ Q (.int ys.length) H) := by subst h; exact call_len_seq
theorem listK (h : X.K = K) : CallR X (.type "list") (fun xs H Q => ∃ p ys, xs = [.ref p] ∧ (SqL K H p ys ∨ SqT K H p ys) ∧ ∀ l, H l = none → Q (.ref l) (upd H l (.lst ys))) := by subst h; exact call_list_of
theorem piLK {tg l : Expr} {tl : TE} (h : X.K = K) (hl : PE X l tl) : PI X tg l (iList K tl) := by subst h; exact pi_list hl
end
def spSource (K : PySem.W.Frag) : Sp := fun vs H Q _ => ∃ (a : Addr) (ns : List Int) (k : Int), vs = [.ref a, .int k] ∧ SqL K H a (ns.map V.int) ∧ 0 ≤ k ∧ k < 100 ∧ ∀ H' d, Same H H' → H d = none → Dr H' d 0 → Q (.ref d) H'
def spDraw (TP : Addr) (TQ : Str) : Sp := fun vs H Q _ => ∃ (d : Addr) (m n : Int), vs = [.ref d, .int m] ∧ Dr H d n ∧ 0 < m ∧ m < 1073741824 ∧ n ≤ 1000000000000 ∧ ∀ H' r, 0 ≤ r → r < m → Dr H' d (n + 1) → Kp TP TQ d H H' → Q (.int r) H'
def spPick (TP : Addr) (TQ : Str) : Sp := fun vs H Q _ => ∃ (d a : Addr) (xs : List V) (n : Int), vs = [.ref d, .ref a] ∧ H a = some (.lst xs) ∧ a ≠ d ∧ xs ≠ [] ∧ xs.length ≤ 1000 ∧ Dr H d n ∧ n ≤ 1000000000000 ∧
  ∀ H' x, x ∈ xs → Dr H' d (n + 1) → Kp TP TQ d H H' → Q x H'
def spMixed (TP : Addr) (TQ : Str) : Sp := fun vs H Q _ => ∃ (d a : Addr) (ps : List Addr) (L : Addr → List Int) (n : Int), vs = [.ref d, .ref a] ∧ H a = some (.lst (ps.map V.ref)) ∧ a ≠ d ∧ (∀ p ∈ ps, p ≠ d ∧ H p = some (.lst ((L p).map V.int))) ∧ ps.length ≤ 200000 ∧ Dr H d n ∧ n ≤ 900000000000 ∧
  ∀ (H' : Hp) (r : Addr) (ps' : List Addr), ps'.Perm ps → H r = none → H' r = some (.lst (ps'.map V.ref)) → Dr H' d (n + ps.length) → Kp TP TQ d H H' → Q (.ref r) H'
section
variable {P : Program} {w : World} {K : PySem.W.Frag} {mg : Str → Option Value} {base : Heap} {f : Addr} {fd : FuncData} {f1 f2 f3 : Addr} {fd1 fd2 fd3 : FuncData} {TP : Addr} {TQ : Str}
theorem ok_source (T : Txt mg) (F : FnP K "_law_source" s_law_source f fd) (hm : mg "_law_source" = some (.ref f)) : Cal P w K mg base 1 "_law_source" ["_law_script", "_law_place"] (spSource K) f fd := by
  refine cal_of F sc_law_source hm (fun _ _ _ _ _ _ us hl => match us, hl with | [_, _], _ => rfl) (fun vs H Q E h => ?_) (fun cdv A outer s H vs Q E hr h => ?_)
  · obtain ⟨r, rows, k, rfl, _⟩ := h
    rfl
  obtain ⟨a, ns, k, rfl, ha, hk0, hk1, q⟩ := h
  refine ⟨_, (pss_cut (ps_set (i := 2) sc_law_source.nd rfl (Or.inl rfl) (pe_ifExp (pt_cmpR op_lt (pv 1) (pe_callB call_len_seq (by rfl) T.len bt_len (pa_cons (pv 0) pa_nil)) (nomark _)) (pe_ix ix_list (pv 0) (pv 1) (fun _ _ => rfl)) (pe_op op_add (pe_op op_add (pe_op op_mod (pe_callTy call_int1 (by rfl) T.int bt_int (pa_cons (pe_callB (cr_sum rfl) (by rfl) T.sum bt_sum (pa_cons (pe_slice sl_list (pv 0) po_none (po_some pe_int)) pa_nil)) pa_nil)) pe_int) (pe_op op_mul pe_int (pv 1))) pe_int)))
      (pss_cons (ps_set (i := 3) sc_law_source.nd rfl (Or.inl rfl) (pe_op op_add (pe_op op_mul pe_int (pv 1)) pe_int))
      (pss_cons (ps_for PassesOwn.never rfl (pi_list (pv 0)) (pg_name (i := 4) sc_law_source.nd rfl (Or.inl rfl)) (pss_one (ps_set (i := 3) sc_law_source.nd rfl (Or.inl rfl) (pe_op op_mod (pe_callTy call_int1 (by rfl) T.int bt_int (pa_cons (pe_op op_add (pe_op op_mul (pv 3) pe_int) (pv 4)) pa_nil)) pe_int))))
      (pss_one (ps_ret (pe_lst (pa_cons (pe_ifExp (pt_cmpR op_ge (pv 2) (pe_op op_pow pe_int pe_int) (nomark _)) (pv 2) pe_int) (pa_cons (pe_op op_mod (pe_callTy call_int1 (by rfl) T.int bt_int (pa_cons (pe_op op_add (pv 3) (pe_op op_mul pe_int (pv 2))) pa_nil)) pe_int) (pa_cons pe_int pa_nil))))))))), ?_⟩
  refine ⟨fun σ' H' => ∃ c : Int, σ' = [some (.ref a), some (.int k), some (.int c), none, none] ∧ Same H H', ?_, ?_⟩
  · refine ⟨_, rfl, _, rfl, a, _, rfl, .inl ha, _, _, rfl, rfl, _, rfl, ite2 (fun z => ?_) (fun z => ?_)⟩
    · have z1 : k < (((ns.map V.int).length : Nat) : Int) := of_decide_eq_true z
      have z2 : k.toNat < ns.length := by rw [List.length_map] at z1; omega
      refine ⟨_, rfl, _, rfl, a, _, k, .int ns[k.toNat], rfl, rfl, ha, at_of (j := k.toNat) (by omega) (by rw [List.getElem?_map, List.getElem?_eq_getElem z2]; rfl), _, rfl, Same.refl _⟩
    · refine ⟨_, rfl, _, rfl, a, _, rfl, ha, fun l nl => ?_⟩
      rw [show cutV (ns.map V.int) none (some 1) = (ns.take 1).map V.int from (cut_to _ 1).trans List.map_take.symm]
      refine ⟨l, _, rfl, SqL.of upd_same, .inl ⟨_, rfl, _, _, rfl, rfl, (by show (0 : Int) < 1000003; decide), _, rfl, _, _, rfl, rfl, .inl ⟨by decide, by decide⟩, _, _, rfl, rfl, _, _, rfl, rfl, _, rfl, same_new nl _⟩⟩
  · rintro σ' H1 ⟨c, rfl, s1⟩
    refine ⟨_, rfl, _, _, rfl, rfl, .inl ⟨by decide, by decide⟩, _, _, rfl, rfl, ?_⟩
    refine ⟨_, rfl, a, rfl, ⟨_, s1.seq ha⟩, for_list (K := K) (a := a) (xs := ns.map V.int) (fun i σ' H' => ∃ (y : Int) (v4 : Option V), σ' = [some (.ref a), some (.int k), some (.int c), some (.int y), v4] ∧ Same H H' ∧ 0 ≤ y ∧ y < 2147483629)
      ⟨_, none, rfl, s1, by omega, by omega⟩ (fun i σ' H' _ ⟨_, _, _, z, _⟩ => z.seq ha) ?_ ?_⟩
    · rintro i x σ' H' hx ⟨y, v4, rfl, s2, y0, y1⟩
      obtain ⟨n, hi, rfl⟩ := int_at hx
      refine ⟨_, rfl, _, _, rfl, rfl, .inl ⟨by omega, by omega⟩, _, rfl, _, _, rfl, rfl, .inl ⟨_, rfl, _, _, rfl, rfl, (by show (0 : Int) < 2147483629; decide), ?_⟩⟩
      exact ⟨_, _, rfl, s2, Int.emod_nonneg _ (by decide), Int.emod_lt_of_pos _ (by decide)⟩
    · rintro σ' H' ⟨y, v4, rfl, s2, y0, y1⟩
      refine ⟨_, rfl, _, _, rfl, rfl, ⟨by decide, by decide, by decide⟩, _, _, rfl, rfl, _, rfl, ite2 (fun z => ⟨_, rfl, ?_⟩) (fun z => ?_)⟩
      all_goals
        refine ⟨_, rfl, _, rfl, _, _, rfl, rfl, .inl ⟨by decide, by decide⟩, _, _, rfl, rfl, .inl ⟨_, rfl, _, _, rfl, rfl, (by show (0 : Int) < 2147483629; decide), ?_⟩⟩
        refine ⟨(by show 3 ≤ sizeLine; decide), fun p np => q _ p (s2.trans (same_new np _)) (s2.free np) ⟨_, _, _, upd_same, Int.emod_nonneg _ (by decide), Int.emod_lt_of_pos _ (by decide), Int.le_refl 0, Int.le_refl 0⟩⟩
theorem upd_draw {H : Hp} {d : Addr} {xs : List V} {o : HO} (hd : H d = some (.lst xs)) : Kp TP TQ d H (upd H d o) :=
  Kp.draw (fun b u h => by
    by_cases e : b = d
    · subst e
      exact ⟨o, upd_same, fun n => absurd rfl n⟩
    · exact ⟨u, by rw [upd_ne e]; exact h, fun _ => rfl⟩) hd
theorem ok_draw (T : Txt mg) (F : FnP K "_law_draw" s_law_draw f fd) (hm : mg "_law_draw" = some (.ref f)) : Cal P w K mg base 1 "_law_draw" ["_law_draws", "_law_many"] (spDraw TP TQ) f fd := by
  refine cal_of F sc_law_draw hm (fun _ _ _ _ _ _ us hl => match us, hl with | [_, _], _ => rfl) (fun vs H Q E h => ?_) (fun cdv A outer s H vs Q E hr h => ?_)
  · obtain ⟨d, m, n, rfl, _⟩ := h
    rfl
  obtain ⟨d, m, n, rfl, ⟨x, y, z, hd, y0, y1, z0, z1⟩, m0, m1, hn, q⟩ := h
  refine ⟨_, (pss_cons (ps_if (pt_cmpR op_gt (pe_ix ix_list (pv 0) pe_int (fun _ _ => rfl)) pe_int (nomark _)) (pss_cons (ps_set (i := 2) sc_law_draw.nd rfl (Or.inl rfl) (pe_op op_mod (pe_callTy call_int1 (by rfl) T.int bt_int (pa_cons (pe_ix ix_list (pv 0) pe_int (fun _ _ => rfl)) pa_nil)) (pv 1)))
      (pss_cons (ps_asg (pe_op op_fdiv (pe_ix ix_list (pv 0) pe_int (fun _ _ => rfl)) (pv 1)) (pg_sub (pv 0) pe_int set_list))
      (pss_one (ps_ret (pv 2))))) pss_nil)
      (pss_cons (ps_asg (pe_op op_add (pe_ix ix_list (pv 0) pe_int (fun _ _ => rfl)) pe_int) (pg_sub (pv 0) pe_int set_list))
      (pss_cons (ps_set (i := 3) sc_law_draw.nd rfl (Or.inl rfl) (pe_op op_mod (pe_op op_pow (pe_callTy call_int1 (by rfl) T.int bt_int (pa_cons (pe_op op_add (pe_ix ix_list (pv 0) pe_int (fun _ _ => rfl)) (pe_op op_mul pe_int (pe_ix ix_list (pv 0) pe_int (fun _ _ => rfl)))) pa_nil)) pe_int) pe_int))
      (pss_one (ps_ret (pe_op op_mod (pe_op op_fdiv (pe_op op_mod (pe_callTy call_int1 (by rfl) T.int bt_int (pa_cons (pe_op op_mul (pe_op op_add (pv 3) (pe_ix ix_list (pv 0) pe_int (fun _ _ => rfl))) pe_int) pa_nil)) pe_int) pe_int) (pv 1))))))), ?_⟩
  refine ⟨_, rfl, d, _, 0, _, rfl, rfl, SqL.of hd, atI_nat (j := 0) rfl, _, _, rfl, rfl, _, rfl, ite2 (fun e => ?_) (fun e => ?_)⟩
  · refine ⟨_, rfl, d, _, 0, _, rfl, rfl, SqL.of hd, atI_nat (j := 0) rfl, .inl ⟨_, rfl, _, rfl, _, _, rfl, rfl, m0, ?_⟩⟩
    refine ⟨_, rfl, d, _, 0, _, rfl, rfl, SqL.of hd, atI_nat (j := 0) rfl, _, rfl, _, _, rfl, rfl, ⟨m0, m1⟩, ?_⟩
    refine ⟨_, rfl, d, _, 0, 0, rfl, rfl, hd, rfl, ?_⟩
    refine ⟨_, rfl, q _ _ (Int.emod_nonneg _ (by omega)) (Int.emod_lt_of_pos _ m0) ⟨_, _, _, upd_same, y0, y1, z0, by omega⟩ (upd_draw hd)⟩
  · refine ⟨_, rfl, d, _, 2, _, rfl, rfl, SqL.of hd, atI_nat (j := 2) rfl, _, _, rfl, rfl, ?_⟩
    refine ⟨_, rfl, d, _, 2, 2, rfl, rfl, hd, rfl, ?_⟩
    generalize hH1 : upd H d _ = H1
    have k1 : Kp TP TQ d H H1 := by rw [← hH1]; exact upd_draw hd
    have hd1 : H1 d = some (.lst [.int x, .int y, .int (z + 1)]) := by rw [← hH1]; exact upd_same
    -- seed
    refine ⟨_, rfl, d, _, 1, _, rfl, rfl, SqL.of hd1, atI_nat (j := 1) rfl, _, rfl, d, _, 2, _, rfl, rfl, SqL.of hd1, atI_nat (j := 2) rfl, _, _, rfl, rfl, .inl ⟨by decide, by decide⟩, _, _, rfl, rfl, .inl ⟨_, rfl, ?_⟩⟩
    refine ⟨_, _, rfl, rfl, ⟨by decide, by decide, ?_⟩, _, _, rfl, rfl, (by show (0 : Int) < 2147483647; decide), ?_⟩
    · have : (y + 7919 * (z + 1)).natAbs = (y + 7919 * (z + 1)).toNat := by omega
      omega
    refine ⟨_, rfl, _, rfl, d, _, 2, _, rfl, rfl, SqL.of hd1, atI_nat (j := 2) rfl, _, _, rfl, rfl, _, _, rfl, rfl, .inr ⟨by decide, by decide⟩, .inl ⟨_, rfl, ?_⟩⟩
    refine ⟨_, _, rfl, rfl, (by show (0 : Int) < 2147483629; decide), _, _, rfl, rfl, ⟨by decide, by decide⟩, _, rfl, _, _, rfl, rfl, m0, ?_⟩
    exact q _ _ (Int.emod_nonneg _ (by omega)) (Int.emod_lt_of_pos _ m0) ⟨_, _, _, hd1, y0, y1, by omega, by omega⟩ k1
theorem ok_pick (T : Txt mg) (c_law_draw : Cal P w K mg base 1 "_law_draw" ["_law_draws", "_law_many"] (spDraw TP TQ) f1 fd1) (F : FnP K "_law_pick" s_law_pick f fd) (hm : mg "_law_pick" = some (.ref f)) : Cal P w K mg base 2 "_law_pick" ["_law_draws", "_law_some"] (spPick TP TQ) f fd := by
  refine cal_of F sc_law_pick hm (fun _ _ _ _ _ _ us hl => match us, hl with | [_, _], _ => rfl) (fun vs H Q E h => ?_) (fun cdv A outer s H vs Q E hr h => ?_)
  · obtain ⟨d, a, xs, n, rfl, _⟩ := h
    rfl
  obtain ⟨d, a, xs, n, rfl, ha, nad, hne, hl, hD, hn, q⟩ := h
  refine ⟨_, (pss_one (ps_ret (pe_ix ix_list (pv 1) (pe_call c_law_draw.ok (hr.mono (by omega)) (by rfl) c_law_draw.mg c_law_draw.kp c_law_draw.b .nil pass0 (pa_cons (pv 0) (pa_cons (pe_callB call_len_seq (by rfl) T.len bt_len (pa_cons (pv 1) pa_nil)) pa_nil))) (fun _ _ => rfl)))), ?_⟩
  have hpos : 0 < xs.length := List.length_pos_iff.mpr hne
  refine ⟨_, rfl, _, rfl, _, rfl, a, _, rfl, .inl (SqL.of ha), d, _, n, rfl, hD, by omega, by omega, hn, fun H1 r r0 r1 D1 k1 => ?_⟩
  have r2 : r.toNat < xs.length := by omega
  exact ⟨a, xs, r, xs[r.toNat], rfl, rfl, SqL.of (k1.lst ha nad), at_of (j := r.toNat) (by omega) (List.getElem?_eq_getElem r2), q _ _ (List.getElem_mem r2) D1 k1⟩
theorem shaped_ll : ∀ ls : List (List Int), SeqAt.shaped (.list (ls.map fun l => .list (l.map PyData.int))) = true := by
  have h1 : ∀ ls : List (List Int), PyData.canLayAll0 (ls.map fun l => PyData.list (l.map PyData.int)) = true := fun ls => by
    induction ls with
    | nil => rfl
    | cons l ls ih =>
      rw [List.map_cons, PyData.canLayAll0, ih, Bool.and_true]
      exact SeqAt.canLay_of_shaped (PySem.W.ke_shaped_ints l)
  have h2 : ∀ ls : List (List Int), PyData.depthAll (ls.map fun l => PyData.list (l.map PyData.int)) ≤ 1 := fun ls => by
    induction ls with
    | nil => exact Nat.zero_le _
    | cons l ls ih =>
      rw [List.map_cons, PyData.depthAll, PyData.depth, PySem.W.depth_ints]
      omega
  intro ls
  unfold SeqAt.shaped
  rw [PyData.canLay0, h1, PyData.depth, Bool.true_and]
  have := h2 ls
  exact decide_eq_true (by omega)
end
end K41

set_option maxHeartbeats 2000000
/-! K41F: mixed, same. -/
namespace K41
open PySem PySem.Spec PyProof.Rows L2 RZ
theorem erase_perm {α : Type} : ∀ {l : List α} {k : Nat} {x : α}, l[k]? = some x → (x :: l.eraseIdx k).Perm l
  | [], k, x, h => by simp at h
  | a :: l, 0, x, h => by
    have e : a = x := Option.some.inj h
    subst e
    exact List.Perm.refl _
  | a :: l, k + 1, x, h => by
    have ih := erase_perm (l := l) (k := k) (x := x) h
    show (x :: a :: l.eraseIdx k).Perm (a :: l)
    exact (List.Perm.swap a x _).trans (ih.cons a)
theorem erase_map {α β : Type} (f : α → β) : ∀ (l : List α) (k : Nat), (l.map f).eraseIdx k = (l.eraseIdx k).map f
  | [], _ => rfl
  | a :: l, 0 => rfl
  | a :: l, k + 1 => by
    show f a :: (l.map f).eraseIdx k = f a :: (l.eraseIdx k).map f
    rw [erase_map f l k]
/-- lists of ints at p, .. -/
theorem dp_lists {K : PySem.W.Frag} {H : Hp} {L : Addr → List Int} : ∀ {ps : List Addr}, (∀ p ∈ ps, H p = some (.lst ((L p).map V.int))) → DpAll K H (ps.map V.ref) (ps.map fun p => .list ((L p).map PyData.int))
  | [], _ => .nil
  | p :: ps, h => .cons (.lst (SqL.of (h p (List.mem_cons_self ..))) (dp_ints _)) (dp_lists fun q hq => h q (List.mem_cons_of_mem _ hq))
theorem shaped_l2 {L : Addr → List Int} (ps : List Addr) : SeqAt.shaped (.list (ps.map fun p => .list ((L p).map PyData.int))) = true := by
  have := shaped_ll (ps.map L)
  rw [List.map_map] at this
  exact this
/-- what stands between two turns of the mixing -/
def MixW (TP : Addr) (TQ : Str) (H : Hp) (d a r g : Addr) (ps : List Addr) (n : Int) : Nat → L2.St → Hp → Prop := fun m σ' H' => ∃ ps1 ps2 : List Addr, m = ps1.length ∧ σ' = [some (.ref d), some (.ref a), some (.ref r), some (.ref g)] ∧
  H' r = some (.lst (ps1.map V.ref)) ∧ H' g = some (.lst (ps2.map V.ref)) ∧ (ps2 ++ ps1).Perm ps ∧ Dr H' d (n + ps2.length) ∧ Kp TP TQ d H H'
section
variable {P : Program} {w : World} {K : PySem.W.Frag} {mg : Str → Option Value} {base : Heap} {f : Addr} {fd : FuncData} {f1 f2 f3 : Addr} {fd1 fd2 fd3 : FuncData} {TP : Addr} {TQ : Str}
theorem ok_mixed (T : Txt mg) (c_law_draw : Cal P w K mg base 1 "_law_draw" ["_law_draws", "_law_many"] (spDraw TP TQ) f1 fd1) (F : FnP K "_law_mixed" s_law_mixed f fd) (hm : mg "_law_mixed" = some (.ref f)) : Cal P w K mg base 2 "_law_mixed" ["_law_draws", "_law_some"] (spMixed TP TQ) f fd := by
  refine cal_of F sc_law_mixed hm (fun _ _ _ _ _ _ us hl => match us, hl with | [_, _], _ => rfl) (fun vs H Q E h => ?_) (fun cdv A outer s H vs Q E hr h => ?_)
  · obtain ⟨d, a, ps, L, n, rfl, _⟩ := h
    rfl
  obtain ⟨d, a, ps, L, n, rfl, ha, nad, hL, hlen, hD, hn, q⟩ := h
  refine ⟨_, (pss_cons (ps_par (i := 2) (j := 3) (by rfl) sc_law_mixed.nd rfl rfl (by decide) rfl rfl (pa_cons (pe_callTy call_list_of (by rfl) T.list bt_list (pa_cons (pv 1) pa_nil)) (pa_cons (pe_lst pa_nil) pa_nil)) (by rfl))
      (pss_cons (ps_while PassesOwn.never (pt_cmpR (op_neD hr.units) (pv 2) (pe_lst pa_nil) (nomark _)) (pss_one (ps_expr (pe_bm PySem.F.plainAttrs_list PySem.F.slot_list_append PySem.F.type_list_append mt_append (pv 3) (pa_cons (pe_bm PySem.F.plainAttrs_list PySem.F.slot_list_pop PySem.F.type_list_pop mt_popAt (pv 2) (pa_cons (pe_call c_law_draw.ok (hr.mono (by omega)) (by rfl) c_law_draw.mg c_law_draw.kp c_law_draw.b .nil pass0 (pa_cons (pv 0) (pa_cons (pe_callB call_len_seq (by rfl) T.len bt_len (pa_cons (pv 2) pa_nil)) pa_nil))) pa_nil)) pa_nil)))))
      (pss_one (ps_ret (pv 3))))), ?_⟩
  refine ⟨_, rfl, a, _, rfl, .inl (SqL.of ha), fun r nr => ?_⟩
  generalize hH1 : upd H r _ = H1
  obtain ⟨s1, hr1⟩ := nw hH1 nr
  refine ⟨Nat.zero_le _, fun g ng => ⟨_, _, rfl, ?_⟩⟩
  generalize hH2 : upd H1 g _ = H2
  obtain ⟨s2, hg2⟩ := nw hH2 ng
  have nrd : r ≠ d := hD.ne nr
  have ng0 := s1.free ng
  have ngd : g ≠ d := hD.ne ng0
  have ngr : g ≠ r := (ne_of_none hr1 ng).symm
  refine ⟨MixW TP TQ H d a r g ps n, ⟨_, ps, [], rfl, rfl, s2 _ _ hr1, hg2, List.Perm.refl _, ?_, Kp.of (s1.trans s2)⟩, ?_⟩
  · have := hD.same (s1.trans s2)
    simpa using this
  rintro m σ' H3 ⟨ps1, ps2, rfl, rfl, hr3, hg3, hp, D3, k3⟩
  refine ⟨_, rfl, Nat.zero_le _, fun e ne => ?_⟩
  generalize hH4 : upd H3 e _ = H4
  obtain ⟨s4, he4⟩ := nw hH4 ne
  have hr4 := s4 _ _ hr3
  have hg4 := s4 _ _ hg3
  have k4 : Kp TP TQ d H H4 := k3.trans (Kp.of s4)
  have hsub : ∀ p ∈ ps1, p ∈ ps := fun p hp1 => hp.mem_iff.mp (List.mem_append_right _ hp1)
  have hL4 : ∀ p ∈ ps1, H4 p = some (.lst ((L p).map V.int)) := fun p hp1 => k4.lst (hL p (hsub p hp1)).2 (hL p (hsub p hp1)).1
  refine ⟨_, _, .lst (SqL.of hr4) (dp_lists hL4), .lst (SqL.of he4) .nil, shaped_l2 ps1, by decide, ?_⟩
  have hl12 : ps2.length + ps1.length = ps.length := by rw [← hp.length_eq, List.length_append]
  cases ps1 with
  | nil =>
    refine ⟨false, rfl, iteF ?_⟩
    refine ⟨_, rfl, q _ g ps2 (by rw [List.append_nil] at hp; exact hp) ng0 hg4 ?_ k4⟩
    have e1 : ps2.length = ps.length := by simpa using hl12
    rw [← e1]
    exact D3.same s4
  | cons p0 r0 =>
    refine ⟨true, rfl, iteT ⟨MixW TP TQ H d a r g ps n r0.length, fun σ' H' h => ⟨r0.length, by simp, h⟩, ?_⟩⟩
    generalize hps : p0 :: r0 = ps1 at *
    have hl1 : ps1.length = r0.length + 1 := by rw [← hps]; rfl
    have D4 := D3.same s4
    refine ⟨_, rfl, .inl ⟨rfl, _, SqL.of hg4⟩, _, rfl, .inl ⟨rfl, _, SqL.of hr4⟩, _, rfl, _, rfl, r, _, rfl, .inl (SqL.of hr4), d, _, _, rfl, D4, ?_, ?_, ?_, fun H5 i i0 i1 D5 k5 => ?_⟩
    · rw [List.length_map]; omega
    · rw [List.length_map]; omega
    · omega
    rw [List.length_map] at i1
    have hr5 := k5.lst hr4 nrd
    have hg5 := k5.lst hg4 ngd
    have hi : i.toNat < ps1.length := by omega
    have hk : (ps1.map V.ref)[i.toNat]? = some (.ref ps1[i.toNat]) := by rw [List.getElem?_map, List.getElem?_eq_getElem hi]; rfl
    refine ⟨r, _, i, i.toNat, _, rfl, rfl, hr5, by omega, by omega, PySem.StrLaws.seqIndex_nonneg i0 (by rw [List.length_map]; omega), hk, ?_⟩
    have hg6 : (upd H5 r (.lst ((ps1.map V.ref).eraseIdx i.toNat))) g = some (.lst (ps2.map V.ref)) := by rw [upd_ne ngr]; exact hg5
    refine ⟨g, _, _, rfl, rfl, hg6, ?_, ?_⟩
    · rw [List.length_map]
      exact sz_lt (by omega)
    refine ⟨ps1.eraseIdx i.toNat, ps2 ++ [ps1[i.toNat]], ?_, rfl, ?_, ?_, ?_, ?_, ?_⟩
    · rw [List.length_eraseIdx, if_pos hi, hl1]
      rfl
    · rw [upd_ne ngr.symm, upd_same, erase_map]
    · rw [upd_same, List.map_append]
      rfl
    · refine List.Perm.trans ?_ hp
      rw [List.append_assoc]
      exact List.Perm.append_left _ (erase_perm (List.getElem?_eq_getElem hi))
    · rw [List.length_append]
      have e1 : n + (((ps2.length + [ps1[i.toNat]].length : Nat)) : Int) = n + (ps2.length : Int) + 1 := by
        show n + ((ps2.length + 1 : Nat) : Int) = _
        omega
      rw [e1]
      exact (D5.upd nrd).upd ngd
    · exact ((k4.trans k5).mut nr hr5).mut ng0 hg6
/-! ### the same data -/
def SameD : Nat → Hp → V → V → Prop
  | 0, _, _, _ => False
  | n + 1, H, x, y => (∃ i, x = .int i ∧ y = .int i) ∨ (∃ b, x = .bl b ∧ y = .bl b) ∨ ∃ (a b : Addr) (xs ys : List V), x = .ref a ∧ y = .ref b ∧ ((H a = some (.lst xs) ∧ H b = some (.lst ys)) ∨ (H a = some (.tup xs) ∧ H b = some (.tup ys))) ∧ xs.length = ys.length ∧ xs.length ≤ 100000 ∧
    ∀ (i : Nat) (x y : V), xs[i]? = some x → ys[i]? = some y → SameD n H x y
theorem SameD.same : ∀ {n : Nat} {H H' : Hp} {x y : V}, SameD n H x y → Same H H' → SameD n H' x y
  | 0, _, _, _, _, h, _ => h.elim
  | n + 1, H, H', x, y, h, s => by
    rcases h with h | h | ⟨a, b, xs, ys, e1, e2, h, hl, hz, hi⟩
    · exact .inl h
    · exact .inr (.inl h)
    · exact .inr (.inr ⟨a, b, xs, ys, e1, e2, h.imp (fun z => ⟨s _ _ z.1, s _ _ z.2⟩) fun z => ⟨s _ _ z.1, s _ _ z.2⟩, hl, hz, fun i u v e3 e4 => (hi i u v e3 e4).same s⟩)
theorem SameD.int {n : Nat} {H : Hp} (i : Int) : SameD (n + 1) H (.int i) (.int i) := .inl ⟨i, rfl, rfl⟩
theorem SameD.bl {n : Nat} {H : Hp} (b : Bool) : SameD (n + 1) H (.bl b) (.bl b) := .inr (.inl ⟨b, rfl, rfl⟩)
/-- two lists of the same ints -/
theorem SameD.ints {n : Nat} {H : Hp} {a b : Addr} {ns : List Int} (ha : H a = some (.lst (ns.map V.int))) (hb : H b = some (.lst (ns.map V.int))) (hl : ns.length ≤ 100000) : SameD (n + 2) H (.ref a) (.ref b) :=
  .inr (.inr ⟨a, b, _, _, rfl, rfl, .inl ⟨ha, hb⟩, rfl, by rw [List.length_map]; exact hl, fun i x y e1 e2 => by
    rw [e1] at e2
    cases e2
    obtain ⟨k, _, rfl⟩ := int_at e1
    exact .int k⟩)
def spSame (n : Nat) : Sp := fun vs H Q _ => ∃ x y, vs = [x, y] ∧ SameD n H x y ∧ Ret (.bl true) H Q
theorem walk_zipT {K : PySem.W.Frag} {a b : Addr} {xs ys : List V} {n : Nat} (hn : n = min xs.length ys.length) : Walk (ItzT K a b) n (fun H => SqT K H a xs ∧ SqT K H b ys) (YPair (fun i => xs[i]?) (fun i => ys[i]?)) := by
  subst hn
  refine ⟨fun i _ hi q => ?_, fun _ q => ⟨xs, ys, q.1, q.2, by omega⟩, fun i H v H' _ q y => ?_⟩
  · have h1 : i < xs.length := by omega
    have h2 : i < ys.length := by omega
    exact ⟨xs, ys, xs[i], ys[i], q.1, q.2, by simp [h1], by simp [h2]⟩
  · obtain ⟨T, x, z, h1, h2, h3, h4, h5⟩ := y
    exact ⟨T, x, z, h1, h2, h3, h4 xs q.1, h5 ys q.2⟩
/-- [f(x, y) for x, y in zip(..)], each answer True -/
theorem lc_true {J : It} {G : Hp → Prop} {K : PySem.W.Frag} {xs ys : List V} {N i j : Nat} {te : TE} {vs : List Nat} {σ : L2.St} {H : Hp} {D : Addr} {Qd : Hp → Prop} (w : Walk J N G (YPair (fun i => xs[i]?) (fun i => ys[i]?))) (hG : ∀ H', Same H H' → G H') (nD : H D = none) (hz : N < 1000000)
    (hw : ∀ x y, wipe (((wipe σ vs).set i (some x)).set j (some y)) vs = wipe σ vs) (he : ∀ (n : Nat) (x y : V) (H2 : Hp) (R : VK), xs[n]? = some x → ys[n]? = some y → Same H H2 → (∀ H3, Same H2 H3 → R (.bl true) H3) → te (((wipe σ vs).set i (some x)).set j (some y)) H2 R)
    (hd : ∀ H', Same H H' → H' D = some (.lst ((List.replicate N true).map V.bl)) → Qd H') :
    LcD J (gTup K 2 (gCons (gName i) (gCons (gName j) gNil))) tYes te vs σ H D Qd := by
  refine lc_it w (fun n H' => Same H H' ∧ H' D = some (.lst ((List.replicate n true).map V.bl))) ⟨same_new nD _, upd_same⟩ (fun n H' _ p => hG H' p.1) ?_ (fun H' p => hd H' p.1 p.2)
  rintro n x H' H2 hn ⟨s1, hD⟩ ⟨T, y1, y2, rfl, nT, rfl, e1, e2⟩
  have sT := same_new nT (.tup [y1, y2])
  refine ⟨T, _, rfl, SqT.of upd_same, rfl, _, _, rfl, _, _, rfl, rfl, hw _ _, yes_ (he n y1 y2 _ _ e1 e2 (s1.trans sT) fun H3 s3 => ⟨_, s3 _ _ (sT _ _ hD), ?_, Same.mut ((s1.trans sT).trans s3) nD, ?_⟩)⟩
  · rw [List.length_map, List.length_replicate]
    exact sz_lt (by omega)
  · rw [upd_same, List.replicate_succ', List.map_append]
    rfl
theorem all_true (n : Nat) : (List.replicate n true).all id = true := by
  rw [List.all_eq_true]
  intro b hb
  exact List.eq_of_mem_replicate hb
theorem same_zero {x : Str} {ps : List Str} (F : FunD K x x (defArgs s_law_same) (defBody s_law_same) (defScope s_law_same) [] [] f fd) (hm : mg x = some (.ref f)) (b : Binds K fd ps []) : Cal P w K mg base 0 x ps (spSame 0) f fd := by
  have no : ∀ vs H Q E, ¬ spSame 0 vs H Q E := fun vs H Q E h => by
    obtain ⟨x, y, _, z, _⟩ := h
    exact z
  exact ⟨⟨fun vs H Q E h => absurd h (no vs H Q E), fun A outer s H args us vs Q E _ _ _ _ h => absurd h (no vs H Q E)⟩, hm, F.kp, b⟩
theorem ok_same_step (T : Txt mg) {n : Nat} (F : FnP K "_law_same" s_law_same f fd) (hm : mg "_law_same" = some (.ref f)) (c_law_same : Cal P w K mg base n "_law_same" ["_law_found", "_law_due"] (spSame n) f fd) :
    Cal P w K mg base (n + 1) "_law_same" ["_law_found", "_law_due"] (spSame (n + 1)) f fd := by
  refine cal_of F sc_law_same hm (fun _ _ _ _ _ _ us hl => match us, hl with | [_, _], _ => rfl) (fun vs H Q E h => ?_) (fun cdv A outer s H vs Q E hr h => ?_)
  · obtain ⟨x, y, rfl, _⟩ := h
    rfl
  obtain ⟨x, y, rfl, hxy, q⟩ := h
  refine ⟨_, (pss_cons (ps_if (pt_val (pe_callB call_isiT (by rfl) T.isinstance bt_isinstance (pa_cons (pv 1) (pa_cons (pe_tup (pa_cons (pe_bltn (v := .ty "list") (by rfl) T.list bt_list rfl) (pa_cons (pe_bltn (v := .ty "tuple") (by rfl) T.tuple bt_tuple rfl) pa_nil))) pa_nil)))) (pss_cons (ps_if (PW.pt (pw_or (pt_cmpR op_ne (pe_callB call_isi (by rfl) T.isinstance bt_isinstance (pa_cons (pv 0) (pa_cons (pe_bltn (v := .ty "list") (by rfl) T.list bt_list rfl) pa_nil))) (pe_callB call_isi (by rfl) T.isinstance bt_isinstance (pa_cons (pv 1) (pa_cons (pe_bltn (v := .ty "list") (by rfl) T.list bt_list rfl) pa_nil))) (nomark _)) (pw_or1 (pt_cmpR op_ne (pe_callB call_isi (by rfl) T.isinstance bt_isinstance (pa_cons (pv 0) (pa_cons (pe_bltn (v := .ty "tuple") (by rfl) T.tuple bt_tuple rfl) pa_nil))) (pe_callB call_isi (by rfl) T.isinstance bt_isinstance (pa_cons (pv 1) (pa_cons (pe_bltn (v := .ty "tuple") (by rfl) T.tuple bt_tuple rfl) pa_nil))) (nomark _))))) (pss_one (ps_ret pe_bl)) pss_nil)
      (pss_one (ps_ret (pe_and (pe_cmpR op_eq (pe_callB call_len_seq (by rfl) T.len bt_len (pa_cons (pv 0) pa_nil)) (pe_callB call_len_seq (by rfl) T.len bt_len (pa_cons (pv 1) pa_nil)) (nomark _)) (pe_one (pe_callB (cr_all rfl) (by rfl) T.all bt_all (pa_cons (pe_lc (own := [("_law_x", 2), ("_law_y", 3)]) (g := gTup K 2 (gCons (gName 2) (gCons (gName 3) (gNil)))) (tt := tYes) (by rfl) sc_law_same.nd (pi_zipA (by rfl) T.zip (pa_cons (pv 0) (pa_cons (pv 1) pa_nil))) (show BlkOk N_law_same (defScope s_law_same) _ _ from blkOk_by (by decide +kernel)) (fun _ _ _ _ _ => (pg_tup rfl (pgs_cons (pg_name (i := 2) sc_law_same.nd rfl (Or.inl rfl)) (pgs_cons (pg_name (i := 3) sc_law_same.nd rfl (Or.inl rfl)) pgs_nil)))) (fun _ _ _ _ _ => pts_nil) (fun _ _ _ _ _ => (pe_call c_law_same.ok (hr.mono (by omega)) (by rfl) c_law_same.mg c_law_same.kp c_law_same.b .nil pass0 (pa_cons (pv 2) (pa_cons (pv 3) pa_nil))))) pa_nil))))))) pss_nil)
      (pss_cons (ps_if (pt_val (pe_callB call_isi (by rfl) T.isinstance bt_isinstance (pa_cons (pv 1) (pa_cons (pe_bltn (v := .ty "dict") (by rfl) T.dict bt_dict rfl) pa_nil)))) pss_never pss_nil)
      (pss_cons (ps_if (pt_val (pe_callB call_isi (by rfl) T.isinstance bt_isinstance (pa_cons (pv 1) (pa_cons (pe_bltn (v := .ty "int") (by rfl) T.int bt_int rfl) pa_nil)))) (pss_one (ps_ret (pe_and (pe_callB call_isi (by rfl) T.isinstance bt_isinstance (pa_cons (pv 0) (pa_cons (pe_bltn (v := .ty "int") (by rfl) T.int bt_int rfl) pa_nil))) (pe_and (pe_cmpR op_eq (pe_callB call_isi (by rfl) T.isinstance bt_isinstance (pa_cons (pv 0) (pa_cons (pe_bltn (v := .ty "bool") (by rfl) T.bool bt_bool rfl) pa_nil))) (pe_callB call_isi (by rfl) T.isinstance bt_isinstance (pa_cons (pv 1) (pa_cons (pe_bltn (v := .ty "bool") (by rfl) T.bool bt_bool rfl) pa_nil))) (nomark _)) (pe_one (pe_cmpR op_eq (pv 0) (pv 1) (nomark _))))))) pss_nil)
      (pss_one (ps_ret (pe_and (pe_not (pe_callB call_isiT (by rfl) T.isinstance bt_isinstance (pa_cons (pv 0) (pa_cons (pe_tup (pa_cons (pe_bltn (v := .ty "int") (by rfl) T.int bt_int rfl) (pa_cons (pe_bltn (v := .ty "list") (by rfl) T.list bt_list rfl) (pa_cons (pe_bltn (v := .ty "tuple") (by rfl) T.tuple bt_tuple rfl) (pa_cons (pe_bltn (v := .ty "dict") (by rfl) T.dict bt_dict rfl) pa_nil))))) pa_nil)))) (pe_one (pe_cmpR op_eq (pv 0) (pv 1) (nomark _))))))))), ?_⟩
  refine ⟨_, rfl, (by show 2 ≤ sizeLine; decide), fun tp ntp => ?_⟩
  generalize hH1 : upd H tp _ = H1
  obtain ⟨s1, ht1⟩ := nw hH1 ntp
  rcases hxy with ⟨i, rfl, rfl⟩ | ⟨b, rfl, rfl⟩ | ⟨a, b, xs, ys, rfl, rfl, h, hl, hz, hi⟩
  · refine ⟨_, tp, _, .type "int", _, false, rfl, ht1, .cons (.ty _) (.cons (.ty _) .nil), .base (.int _), kitAny_cons (b := false) (kit_ty (by decide +kernel)) (fun _ => kitAny_cons (b := false) (kit_ty (by decide +kernel)) (fun _ => rfl) fun z => by cases z) (fun z => by cases z), false, rfl, iteF ?_⟩
    refine ⟨_, rfl, _, _, .type "int", .type "dict", false, rfl, .ty _, .base (.int _), kit_ty (by decide +kernel), false, rfl, iteF ?_⟩
    refine ⟨_, rfl, _, _, .type "int", .type "int", true, rfl, .ty _, .base (.int _), kit_ty (by decide +kernel), true, rfl, iteT ?_⟩
    refine ⟨_, rfl, _, _, .type "int", .type "int", true, rfl, .ty _, .base (.int _), kit_ty (by decide +kernel), true, rfl, iteT ?_⟩
    refine ⟨_, rfl, _, _, .type "int", .type "bool", false, rfl, .ty _, .base (.int _), kit_ty (by decide +kernel), _, rfl, _, _, .type "int", .type "bool", false, rfl, .ty _, .base (.int _), kit_ty (by decide +kernel), rfl, true, rfl, iteT ?_⟩
    refine ⟨_, rfl, _, rfl, rfl, ?_⟩
    rw [decide_eq_true rfl]
    exact q _ s1
  · refine ⟨_, tp, _, .type "bool", _, false, rfl, ht1, .cons (.ty _) (.cons (.ty _) .nil), .base (.bl _), kitAny_cons (b := false) (kit_ty (by decide +kernel)) (fun _ => kitAny_cons (b := false) (kit_ty (by decide +kernel)) (fun _ => rfl) fun z => by cases z) (fun z => by cases z), false, rfl, iteF ?_⟩
    refine ⟨_, rfl, _, _, .type "bool", .type "dict", false, rfl, .ty _, .base (.bl _), kit_ty (by decide +kernel), false, rfl, iteF ?_⟩
    refine ⟨_, rfl, _, _, .type "bool", .type "int", true, rfl, .ty _, .base (.bl _), kit_ty (by decide +kernel), true, rfl, iteT ?_⟩
    refine ⟨_, rfl, _, _, .type "bool", .type "int", true, rfl, .ty _, .base (.bl _), kit_ty (by decide +kernel), true, rfl, iteT ?_⟩
    refine ⟨_, rfl, _, _, .type "bool", .type "bool", true, rfl, .ty _, .base (.bl _), kit_ty (by decide +kernel), _, rfl, _, _, .type "bool", .type "bool", true, rfl, .ty _, .base (.bl _), kit_ty (by decide +kernel), rfl, true, rfl, iteT ?_⟩
    refine ⟨_, rfl, _, rfl, rfl, ?_⟩
    rw [decide_eq_true rfl]
    exact q _ s1
  · rcases h with ⟨ha, hb⟩ | ⟨ha, hb⟩
    · have ha1 := s1 _ _ ha
      have hb1 := s1 _ _ hb
      refine ⟨_, tp, _, .type "list", _, true, rfl, ht1, .cons (.ty _) (.cons (.ty _) .nil), .base (.lst hb1), kitAny_cons (b := true) (kit_ty (by decide +kernel)) (fun z => by cases z) (fun _ => rfl), true, rfl, iteT ?_⟩
      refine ⟨_, rfl, _, _, .type "list", .type "list", true, rfl, .ty _, .base (.lst ha1), kit_ty (by decide +kernel), _, rfl, _, _, .type "list", .type "list", true, rfl, .ty _, .base (.lst hb1), kit_ty (by decide +kernel), rfl, false, rfl, iteF ?_⟩
      refine ⟨_, rfl, _, _, .type "list", .type "tuple", false, rfl, .ty _, .base (.lst ha1), kit_ty (by decide +kernel), _, rfl, _, _, .type "list", .type "tuple", false, rfl, .ty _, .base (.lst hb1), kit_ty (by decide +kernel), rfl, false, rfl, iteF ?_⟩
      refine ⟨_, rfl, a, _, rfl, .inl (SqL.of ha1), _, rfl, b, _, rfl, .inl (SqL.of hb1), rfl, true, by rw [hl, decide_eq_true rfl], iteT ?_⟩
      refine ⟨_, rfl, _, rfl, a, b, _, _, rfl, .inl ⟨SqL.of ha1, SqL.of hb1, fun D nD => lc_true (walk_zip (K := K) (a := a) (b := b) (xs := xs) (ys := ys) rfl) (fun H' s' => ⟨SqL.of (s' _ _ ha1), SqL.of (s' _ _ hb1)⟩) nD (by omega) (fun _ _ => rfl)
        (fun k x y H2 R e1 e2 s2 r => ⟨_, rfl, _, rfl, x, y, rfl, (hi k x y e1 e2).same (s1.trans s2), r⟩) (fun H2 s2 hD => ⟨D, _, rfl, SqL.of hD, ?_⟩)⟩⟩
      rw [all_true]
      exact q _ (s1.trans s2)
    · have ha1 := s1 _ _ ha
      have hb1 := s1 _ _ hb
      refine ⟨_, tp, _, .type "tuple", _, true, rfl, ht1, .cons (.ty _) (.cons (.ty _) .nil), .base (.tup hb1), kitAny_cons (b := false) (kit_ty (by decide +kernel)) (fun _ => kitAny_cons (b := true) (kit_ty (by decide +kernel)) (fun z => by cases z) fun _ => rfl) (fun z => by cases z), true, rfl, iteT ?_⟩
      refine ⟨_, rfl, _, _, .type "tuple", .type "list", false, rfl, .ty _, .base (.tup ha1), kit_ty (by decide +kernel), _, rfl, _, _, .type "tuple", .type "list", false, rfl, .ty _, .base (.tup hb1), kit_ty (by decide +kernel), rfl, false, rfl, iteF ?_⟩
      refine ⟨_, rfl, _, _, .type "tuple", .type "tuple", true, rfl, .ty _, .base (.tup ha1), kit_ty (by decide +kernel), _, rfl, _, _, .type "tuple", .type "tuple", true, rfl, .ty _, .base (.tup hb1), kit_ty (by decide +kernel), rfl, false, rfl, iteF ?_⟩
      refine ⟨_, rfl, a, _, rfl, .inr (SqT.of ha1), _, rfl, b, _, rfl, .inr (SqT.of hb1), rfl, true, by rw [hl, decide_eq_true rfl], iteT ?_⟩
      refine ⟨_, rfl, _, rfl, a, b, _, _, rfl, .inr ⟨SqT.of ha1, SqT.of hb1, fun D nD => lc_true (walk_zipT (K := K) (a := a) (b := b) (xs := xs) (ys := ys) rfl) (fun H' s' => ⟨SqT.of (s' _ _ ha1), SqT.of (s' _ _ hb1)⟩) nD (by omega) (fun _ _ => rfl)
        (fun k x y H2 R e1 e2 s2 r => ⟨_, rfl, _, rfl, x, y, rfl, (hi k x y e1 e2).same (s1.trans s2), r⟩) (fun H2 s2 hD => ⟨D, _, rfl, SqL.of hD, ?_⟩)⟩⟩
      rw [all_true]
      exact q _ (s1.trans s2)
theorem ok_same (T : Txt mg) (F : FnP K "_law_same" s_law_same f fd) (hm : mg "_law_same" = some (.ref f)) : Cal P w K mg base 3 "_law_same" ["_law_found", "_law_due"] (spSame 3) f fd :=
  ok_same_step T F hm (ok_same_step T F hm (ok_same_step T F hm (same_zero F hm (F.bindsN fun _ _ _ _ _ _ us hl => match us, hl with | [_, _], _ => rfl))))
end
end K41

set_option maxHeartbeats 2000000
/-! K41G: all orders. -/
namespace K41
open PySem PySem.Spec PyProof.Rows L2
/-- lists of ints at the addresses, one by one; C: what is known of each address -/
def LA (C : Addr → Prop) (H : Hp) : List Addr → List (List Int) → Prop
  | [], [] => True
  | p :: ps, l :: F => (C p ∧ H p = some (.lst (l.map V.int))) ∧ LA C H ps F
  | _, _ => False
theorem LA.len {C : Addr → Prop} {H : Hp} : ∀ {ps : List Addr} {F : List (List Int)}, LA C H ps F → ps.length = F.length
  | [], [], _ => rfl
  | p :: ps, l :: F, h => by rw [List.length_cons, List.length_cons, LA.len h.2]
  | [], _ :: _, h => h.elim
  | _ :: _, [], h => h.elim
theorem LA.at {C : Addr → Prop} {H : Hp} : ∀ {ps : List Addr} {F : List (List Int)} {i : Nat} {p : Addr}, LA C H ps F → ps[i]? = some p → ∃ l, F[i]? = some l ∧ C p ∧ H p = some (.lst (l.map V.int))
  | [], [], _, _, _, e => by simp at e
  | q :: ps, l :: F, 0, p, h, e => by
    have e1 : q = p := Option.some.inj e
    subst e1
    exact ⟨l, rfl, h.1⟩
  | q :: ps, l :: F, i + 1, p, h, e => LA.at (i := i) h.2 e
  | [], _ :: _, _, _, h, _ => h.elim
  | _ :: _, [], _, _, h, _ => h.elim
theorem LA.mono {C C' : Addr → Prop} {H H' : Hp} : ∀ {ps : List Addr} {F : List (List Int)}, LA C H ps F → (∀ p xs, C p → H p = some (.lst xs) → C' p ∧ H' p = some (.lst xs)) → LA C' H' ps F
  | [], [], _, _ => trivial
  | p :: ps, l :: F, h, k => ⟨k p _ h.1.1 h.1.2, LA.mono h.2 k⟩
  | [], _ :: _, h, _ => h.elim
  | _ :: _, [], h, _ => h.elim
theorem LA.app {C : Addr → Prop} {H : Hp} : ∀ {ps : List Addr} {F : List (List Int)} {qs : List Addr} {G : List (List Int)}, LA C H ps F → LA C H qs G → LA C H (ps ++ qs) (F ++ G)
  | [], [], _, _, _, k => k
  | p :: ps, l :: F, _, _, h, k => ⟨h.1, LA.app h.2 k⟩
  | [], _ :: _, _, _, h, _ => h.elim
  | _ :: _, [], _, _, h, _ => h.elim
theorem ords_snoc {α : Type} (x : α) : ∀ (xs : List α) (F : List (List α)), ords (xs ++ [x]) F = (ords xs F).flatMap (ins x)
  | [], F => rfl
  | y :: xs, F => ords_snoc x xs _
def spOrders : Sp := fun vs H Q _ => ∃ (a : Addr) (xs : List Int), vs = [.ref a] ∧ H a = some (.lst (xs.map V.int)) ∧ xs.length ≤ 6 ∧
  ∀ (H' : Hp) (r : Addr) (ps : List Addr), Same H H' → H r = none → H' r = some (.lst (ps.map V.ref)) → LA (fun p => H p = none) H' ps (ords xs [[]]) → Q (.ref r) H'
section
variable {P : Program} {w : World} {K : PySem.W.Frag} {mg : Str → Option Value} {base : Heap} {f : Addr} {fd : FuncData} {f1 f2 f3 : Addr} {fd1 fd2 fd3 : FuncData} {TP : Addr} {TQ : Str}
theorem ok_orders (T : Txt mg) (F : FnP K "_law_orders" s_law_orders f fd) (hm : mg "_law_orders" = some (.ref f)) : Cal P w K mg base 1 "_law_orders" ["_law_things"] spOrders f fd := by
  refine cal_of F sc_law_orders hm (fun _ _ _ _ _ _ us hl => match us, hl with | [_], _ => rfl) (fun vs H Q E h => ?_) (fun cdv A outer s H vs Q E hr h => ?_)
  · obtain ⟨a, xs, rfl, _⟩ := h
    rfl
  obtain ⟨a, xs, rfl, ha, h6, q⟩ := h
  refine ⟨_, (pss_cons (ps_set (i := 1) sc_law_orders.nd rfl (Or.inl rfl) (pe_lst (pa_cons (pe_lst pa_nil) pa_nil)))
      (pss_cons (ps_for PassesOwn.never rfl (pi_list (pv 0)) (pg_name (i := 2) sc_law_orders.nd rfl (Or.inr rfl)) (pss_cons (ps_set (i := 3) sc_law_orders.nd rfl (Or.inl rfl) (pe_lst pa_nil))
      (pss_cons (ps_for PassesOwn.never rfl (pi_list (pv 1)) (pg_name (i := 4) sc_law_orders.nd rfl (Or.inr rfl)) (pss_one (ps_expr (pe_bm PySem.F.plainAttrs_list PySem.F.slot_list_extend PySem.F.type_list_extend mt_extend (pv 3) (pa_cons (pe_lc (own := [("_law_at", 5)]) (g := gName 5) (tt := tYes) (by rfl) sc_law_orders.nd (pi_range1 (by rfl) T.range (pa_cons (pe_op op_add (pe_callB call_len_seq (by rfl) T.len bt_len (pa_cons (pv 4) pa_nil)) pe_int) pa_nil)) (show BlkOk N_law_orders (defScope s_law_orders) _ _ from blkOk_by (by decide +kernel)) (fun _ _ _ _ _ => (pg_name (i := 5) sc_law_orders.nd rfl (Or.inl rfl))) (fun _ _ _ _ _ => pts_nil) (fun _ _ _ _ _ => (pe_op op_cat (pe_op op_cat (pe_slice (slLK (K := K) rfl) (pv 4) po_none (po_some (pv 5))) (pe_lst (pa_cons (pv 2) pa_nil))) (pe_slice (slLK (K := K) rfl) (pv 4) (po_some (pv 5)) po_none)))) pa_nil)))))
      (pss_one (ps_set (i := 1) sc_law_orders.nd rfl (Or.inl rfl) (pv 3))))))
      (pss_one (ps_ret (pv 1))))), ?_⟩
  -- found = [[]]
  refine ⟨Nat.zero_le _, fun p0 n0 => ?_⟩
  generalize hH1 : upd H p0 _ = H1
  obtain ⟨s1, hp0⟩ := nw hH1 n0
  refine ⟨(by show 1 ≤ sizeLine; decide), fun r0 nr0 => ?_⟩
  generalize hH2 : upd H1 r0 _ = H2
  obtain ⟨s2, hr0⟩ := nw hH2 nr0
  refine ⟨_, rfl, a, rfl, ⟨_, SqL.of ((s1.trans s2) _ _ ha)⟩, for_it (walk_list (K := K) (a := a) (xs := xs.map V.int))
    (fun i σ' H' => ∃ (r : Addr) (ps : List Addr) (v2 v3 v4 v5 : Option V), σ' = [some (.ref a), some (.ref r), v2, v3, v4, v5] ∧ Same H H' ∧ H r = none ∧ H' r = some (.lst (ps.map V.ref)) ∧ LA (fun p => H p = none) H' ps (ords (xs.take i) [[]]))
    ⟨r0, [p0], none, none, none, none, rfl, s1.trans s2, s1.free nr0, hr0, ⟨n0, s2 _ _ hp0⟩, trivial⟩ (fun i σ' H' _ ⟨_, _, _, _, _, _, _, z, _⟩ => SqL.of (z _ _ ha)) ?_ ?_⟩
  · rintro i x σ' H3 H3' hi ⟨r, ps, v2, v3, v4, v5, rfl, s3, nr, hr3, hla⟩ ⟨rfl, hx⟩
    obtain ⟨n, hxi, rfl⟩ := int_at hx
    have hil : i < xs.length := at_len hxi
    have hF : (ords (xs.take i) [[]]).length ≤ 7 ^ 5 := by
      have h1 := ords_len (xs.take i) [[]] 0 (fun l hl => by simpa using hl) (by rw [List.length_take]; omega)
      have h2 : (xs.take i).length ≤ 5 := by rw [List.length_take]; omega
      have h3 : 7 ^ (xs.take i).length ≤ 7 ^ 5 := Nat.pow_le_pow_right (by decide) h2
      simpa using Nat.le_trans h1 (Nat.mul_le_mul_left _ h3)
    have hF6 : ∀ l ∈ ords (xs.take i) [[]], l.length ≤ 5 := fun l hl => by
      rw [(ords_mem.mp hl).length_eq, List.length_take]
      omega
    rw [take_at hxi, ords_snoc]
    generalize hFF : ords (xs.take i) [[]] = F at hla hF hF6
    -- longer = []
    refine ⟨Nat.zero_le _, fun g ng => ?_⟩
    generalize hH4 : upd H3' g _ = H4
    obtain ⟨s4, hg4⟩ := nw hH4 ng
    have hgr : g ≠ r := (ne_of_none hr3 ng).symm
    refine ⟨_, rfl, r, rfl, ⟨_, SqL.of (s4 _ _ hr3)⟩, for_it (walk_list (K := K) (a := r) (xs := ps.map V.ref))
      (fun j σ' H' => ∃ (qs : List Addr) (v4 v5 : Option V), σ' = [some (.ref a), some (.ref r), some (.int n), some (.ref g), v4, v5] ∧ Same H3' H' ∧ H' g = some (.lst (qs.map V.ref)) ∧ LA (fun p => H3' p = none ∧ p ≠ g) H' qs ((F.take j).flatMap (ins n)))
      ⟨[], v4, v5, rfl, s4, hg4, trivial⟩ (fun i σ' H' _ ⟨_, _, _, _, z, _⟩ => SqL.of (z _ _ hr3)) ?_ ?_⟩
    · rintro j x σ' H5 H5' hj ⟨qs, v4, v5, rfl, s5, hg5, hq5⟩ ⟨rfl, hx5⟩
      obtain ⟨p, hpj, rfl⟩ := ref_at hx5
      obtain ⟨l, hlj, np, hp3⟩ := hla.at hpj
      have hp5 := s5 _ _ hp3
      have hll : l.length ≤ 5 := hF6 l (List.mem_of_getElem? hlj)
      have hqs : qs.length ≤ 117649 := by
        rw [hq5.len]
        refine Nat.le_trans (flat_len (c := 7) fun m hm => ?_) ?_
        · rw [ins_len]
          have := hF6 m (List.mem_of_mem_take hm)
          omega
        · rw [List.length_take]
          have : 7 ^ 5 = 16807 := by decide
          omega
      refine ⟨_, rfl, .inl ⟨rfl, _, SqL.of hg5⟩, _, rfl, p, _, rfl, .inl (SqL.of hp5), _, _, rfl, rfl, _, rfl, ?_⟩
      rw [List.length_map]
      refine ⟨by omega, by omega, fun D nD => lc_range (lo := 0) (n := ((l.length : Int) + 1).toNat)
        (fun k H' => ∃ zs : List Addr, H' D = some (.lst (zs.map V.ref)) ∧ Same H5' H' ∧ LA (fun z => H5' z = none ∧ z ≠ D) H' zs ((List.range k).map fun k => l.take k ++ [n] ++ l.drop k)) ⟨[], upd_same, same_new nD _, trivial⟩ ?_ ?_⟩
      · rintro k H6 hk ⟨zs, hD6, s6, hz6⟩
        have e0 : (0 : Int) + (k : Int) = (k : Int) := Int.zero_add _
        rw [e0]
        have hk' : k ≤ l.length := by omega
        have hp6 := s6 _ _ hp5
        have szl : ∀ m : Nat, ((l.map V.int).take m).length ≤ 5 := fun m => by rw [List.length_take, List.length_map]; omega
        refine ⟨rfl, yes_ ?_⟩
        refine ⟨_, rfl, _, rfl, _, rfl, p, _, rfl, SqL.of hp6, fun q1 n1 => ?_⟩
        rw [cut_to]
        generalize hH7 : upd H6 q1 _ = H7
        obtain ⟨s7, h7⟩ := nw hH7 n1
        refine ⟨_, rfl, (by show 1 ≤ sizeLine; decide), fun q2 n2 => ?_⟩
        generalize hH8 : upd H7 q2 _ = H8
        obtain ⟨s8, h8⟩ := nw hH8 n2
        refine ⟨q1, q2, _, _, rfl, rfl, s8 _ _ h7, h8, sz_le (by have := szl k; show _ + 1 ≤ _; omega), fun q3 n3 => ?_⟩
        generalize hH9 : upd H8 q3 _ = H9
        obtain ⟨s9, h9⟩ := nw hH9 n3
        refine ⟨_, rfl, _, rfl, _, rfl, p, _, rfl, SqL.of ((s7.trans (s8.trans s9)) _ _ hp6), fun q4 n4 => ?_⟩
        rw [cut_from]
        generalize hHa : upd H9 q4 _ = Ha
        obtain ⟨sa, h10⟩ := nw hHa n4
        refine ⟨q3, q4, _, _, rfl, rfl, sa _ _ h9, h10, sz_le (by have := szl k; have e1 : ((l.map V.int).drop k).length ≤ 5 := (by rw [List.length_drop, List.length_map]; omega); rw [List.length_append]; show _ + 1 + _ ≤ _; omega), fun q5 n5 => ?_⟩
        generalize hHb : upd Ha q5 _ = Hb
        obtain ⟨sb, h11⟩ := nw hHb n5
        have s6a : Same H6 Ha := s7.trans (s8.trans (s9.trans sa))
        have s6b : Same H6 Hb := s6a.trans sb
        have nq5 : H6 q5 = none := s6a.free n5
        refine ⟨_, s6b _ _ hD6, ?_, zs ++ [q5], ?_, Same.mut (s6.trans s6b) nD, ?_⟩
        · rw [List.length_map, hz6.len, List.length_map, List.length_range]
          exact sz_lt (by omega)
        · rw [upd_same, List.map_append]
          rfl
        · rw [List.range_succ, List.map_append]
          refine LA.app (hz6.mono fun z ys c hz => ⟨c, by rw [upd_ne c.2]; exact s6b _ _ hz⟩) ⟨⟨⟨s6.free nq5, (ne_of_none hD6 nq5).symm⟩, ?_⟩, trivial⟩
          rw [upd_ne (ne_of_none hD6 nq5).symm, h11]
          simp only [List.map_append, List.map_take, List.map_drop, List.map_cons, List.map_nil]
      · rintro H6 ⟨zs, hD6, s6, hz6⟩
        have hgD : g ≠ D := ne_of_none hg5 nD
        have e1 : ((l.length : Int) + 1).toNat = l.length + 1 := by omega
        rw [e1] at hz6
        have hzl : zs.length ≤ 6 := by rw [hz6.len, List.length_map, List.length_range]; omega
        refine ⟨g, D, _, _, rfl, rfl, s6 _ _ hg5, hD6, sz_le (by rw [List.length_map, List.length_map]; omega), qs ++ zs, some (.ref p), v5, rfl, Same.mut (s5.trans s6) ng, by rw [upd_same, List.map_append], ?_⟩
        rw [take_at hlj, List.flatMap_append]
        refine LA.app (hq5.mono fun z ys c hz => ⟨c, by rw [upd_ne c.2]; exact s6 _ _ hz⟩) ?_
        have e2 : [l].flatMap (ins n) = (List.range (l.length + 1)).map fun k => l.take k ++ [n] ++ l.drop k := by
          rw [List.flatMap_cons, List.flatMap_nil, List.append_nil]
          rfl
        rw [e2]
        refine hz6.mono fun z ys c hz => ?_
        have nzg : z ≠ g := (ne_of_none hg5 c.1).symm
        exact ⟨⟨s5.free c.1, nzg⟩, by rw [upd_ne nzg]; exact hz⟩
    · rintro σ' H5 ⟨qs, v4, v5, rfl, s5, hg5, hq5⟩
      have e1 : F.take (ps.map V.ref).length = F := List.take_of_length_le (by rw [List.length_map, hla.len]; exact Nat.le_refl _)
      rw [e1] at hq5
      refine ⟨_, rfl, g, qs, some (.int n), some (.ref g), v4, v5, rfl, s3.trans s5, s3.free ng, hg5, hq5.mono fun z ys c hz => ⟨s3.free c.1, hz⟩⟩
  · rintro σ' H3 ⟨r, ps, v2, v3, v4, v5, rfl, s3, nr, hr3, hla⟩
    have e1 : xs.take (xs.map V.int).length = xs := List.take_of_length_le (by rw [List.length_map]; exact Nat.le_refl _)
    rw [e1] at hla
    exact ⟨_, rfl, q _ r ps s3 nr hr3 hla⟩
end
end K41

set_option maxHeartbeats 2000000
/-! K41R: sorted(range(n), key=f) over the heap; a call of the key. -/
namespace K41
open PySem PySem.Spec PyProof.Rows L2
/-! ### the order, plain -/
def keyD (ns : List Int) (i : Nat) : PyData := .tuple [.int (0 - ns.getD i 0), .int (i : Nat)]
/-- the places, their margins falling, the lower place first -/
def ord (ns : List Int) : List Nat := (List.range ns.length).mergeSort (PySem.W.dataLe false (keyD ns))
theorem ord_perm (ns : List Int) : (ord ns).Perm (List.range ns.length) := List.mergeSort_perm _ _
theorem ord_len (ns : List Int) : (ord ns).length = ns.length := by rw [(ord_perm ns).length_eq, List.length_range]
theorem ord_lt {ns : List Int} {i : Nat} (h : i ∈ ord ns) : i < ns.length := List.mem_range.mp ((ord_perm ns).mem_iff.mp h)
theorem ord_down (ns : List Int) : ((ord ns).map fun i => ns.getD i 0).Pairwise (· ≥ ·) := by
  unfold ord
  have e : PySem.W.dataLe false (keyD ns) = fun p q => decide (0 - ns.getD p 0 < 0 - ns.getD q 0 ∨ (0 - ns.getD p 0 = 0 - ns.getD q 0 ∧ (p : Int) ≤ (q : Int))) :=
    PySem.W.dataLe_ii (β := Nat) (fun i => 0 - ns.getD i 0) (fun i => (i : Int))
  rw [e, List.pairwise_map]
  have h := List.pairwise_mergeSort (le := fun p q : Nat => decide (0 - ns.getD p 0 < 0 - ns.getD q 0 ∨ (0 - ns.getD p 0 = 0 - ns.getD q 0 ∧ (p : Int) ≤ (q : Int)))) (fun a b c h1 h2 => by
    have h1 := of_decide_eq_true h1
    have h2 := of_decide_eq_true h2
    exact decide_eq_true (by omega)) (fun a b => by
    rw [Bool.or_eq_true]
    by_cases h : 0 - ns.getD a 0 < 0 - ns.getD b 0 ∨ (0 - ns.getD a 0 = 0 - ns.getD b 0 ∧ (a : Int) ≤ (b : Int))
    · exact .inl (decide_eq_true h)
    · exact .inr (decide_eq_true (by omega))) (List.range ns.length)
  refine h.imp fun h => ?_
  have h := of_decide_eq_true h
  show ns.getD _ 0 ≥ ns.getD _ 0
  omega
theorem range_getD : ∀ ns : List Int, (List.range ns.length).map (fun i => ns.getD i 0) = ns := fun ns => by
  apply List.ext_getElem?
  intro i
  rw [List.getElem?_map]
  by_cases h : i < ns.length
  · rw [List.getElem?_range h, List.getElem?_eq_getElem h]
    simp [List.getD_eq_getElem?_getD, h]
  · rw [List.getElem?_eq_none (by rw [List.length_range]; omega), List.getElem?_eq_none (by omega)]
    rfl
theorem ord_sd (ns : List Int) : (ord ns).map (fun i => ns.getD i 0) = sd ns := by
  refine sd_eq ?_ (ord_down ns)
  have h := (ord_perm ns).map fun i => ns.getD i 0
  rw [range_getD] at h
  exact h
theorem key_alike (ns : List Int) (l : List Nat) : PySem.W.AllAlike (l.map (keyD ns)) := PySem.W.AllAlike.of fun _ _ => by simp [PySem.W.alike, PySem.W.alikeAll, keyD]
theorem key_sortable (ns : List Int) (l : List Nat) : PySem.W.Sortable (l.map (keyD ns)) := PySem.W.Sortable.tuples fun _ => ⟨_, _, rfl⟩
theorem key_depth (ns : List Int) (i : Nat) : (keyD ns i).depth = 1 := by simp [keyD, PyData.depth, PyData.depthAll]
/-! ### sorted(range(n), key=f) -/
theorem each_range {acc : List Value} {n : Nat} (hl : acc.length = n) (h : ∀ (j : Nat) (v : Value), acc[j]? = some v → ∃ t, v = .int (j : Nat) t) : PySem.W.EachIs (fun v (i : Nat) => ∃ t, v = Value.int (i : Nat) t) acc (List.range n) := by
  have key : ∀ (l : List Value) (m : Nat), (∀ (j : Nat) (v : Value), l[j]? = some v → ∃ t, v = .int ((m + j : Nat) : Int) t) → PySem.W.EachIs (fun v (i : Nat) => ∃ t, v = Value.int (i : Nat) t) l (List.range' m l.length) := by
    intro l
    induction l with
    | nil => exact fun m _ => .nil
    | cons a l ih =>
      intro m hh
      rw [List.length_cons, List.range'_succ]
      refine .cons (hh 0 a rfl) (ih (m + 1) fun j v e => ?_)
      obtain ⟨t, q⟩ := hh (j + 1) v e
      exact ⟨t, by rw [q]; congr 1; omega⟩
  have k := key acc 0 fun j v e => by
    obtain ⟨t, q⟩ := h j v e
    exact ⟨t, by rw [q, Nat.zero_add]⟩
  rw [hl, ← List.range_eq_range'] at k
  exact k
theorem sorted_rangeK {prog : Program} {w : World} {A : Around} {E : Value → Shared → Prop} {s : Shared} {r f : Addr} {n : Nat} {t u v : Tok} {k : Nat → PyData} {Q : Value → Shared → Prop} (hh : A.handled = none) (hr : IsRange s.heap r 0 (n : Int) 1 t u v) (hn : n ≤ 2 ^ 24)
    (hal : PySem.W.AllAlike ((List.range n).map k)) (hk : PySem.W.Sortable ((List.range n).map k)) (hu : ∀ i, A.units + 2 + (k i).depth < cLine)
    (turn : ∀ (i : Nat) (z : Tok), i < n → ∀ (h : Heap) (tk : Nat), (∀ b o, s.heap.get? b = some o → h.get? b = some o) →
      wpAny (model prog w) A.in1.in1 (call (.ref f) [.int (i : Nat) z]) (PySem.W.KeyPure (k i) { s with heap := h, toks := tk }) (fun _ _ => False) { s with heap := h, toks := tk })
    (q : ∀ (out : List Value) (c : Nat) (h1 h' : Heap) (tk : Nat) (a : Addr), (∀ b o, s.heap.get? b = some o → h1.get? b = some o) → (∀ b o, h1.get? b = some o → h'.get? b = some o) → h1.objs.size ≤ a → h'.get? a = some (seqObj "list" (List.toArray out) c) → out.length = n →
      PySem.W.EachIs (fun v (i : Nat) => ∃ t, v = Value.int (i : Nat) t) out ((List.range n).mergeSort (PySem.W.dataLe false k)) → Q (.ref a) { s with heap := h', toks := tk }) :
    wpAny (model prog w) A (call (.builtin "sorted") [.ref r] [(Str.ofString "key", .ref f)]) Q E s := by
  refine call_function_entry_kw kind_sorted plain_sorted entry_sorted (ksk_s1 _ _) ?_
  unfold Builtin.«sorted»
  refine wpAny_bind (m := checkCount "sorted" 1 1 _) (wpAny_pure ?_)
  have esz : Builtin.Range.rangeSize 0 (n : Int) 1 = (n : Int) := by
    rw [rangeSize_nat]
    omega
  refine wpAny_bind (collect_range (A := A.in1) hh hr (small_one (by omega) (by omega) (by omega) (by omega)) esz hn fun h1 tk1 acc k1 hi => ?_)
  have hl : acc.toList.length = n := by rw [Array.length_toList]; exact hi.1
  have hz : acc.toList.length ≤ sizeLine := by rw [hl, sizeLine_eq]; omega
  have he : PySem.W.EachIs (fun v (i : Nat) => ∃ t, v = Value.int (i : Nat) t) acc.toList (List.range n) := each_range hl fun j v e => by
    obtain ⟨t, q⟩ := hi.2 j v (by rw [← e, Array.getElem?_toList])
    exact ⟨t, by rw [q]; congr 1; omega⟩
  refine wpAny_bind (wpAny_newList ?_ hz)
  have hoL : (h1.push (seqObj "list" acc.toList.toArray 0)).get? h1.objs.size = some (seqObj "list" acc.toList.toArray 0) := Heap.get?_push_size _ rfl
  refine wpAny_bind (wpAny_holding (wpAny_call_entry_kw slot_list_sort ⟨_, hoL, rfl⟩ entry_list_sort ?body (ksk_l1 _ _)))
  case body =>
    show wpAny (model prog w) A.in1.in1 (Builtin.«list.sort» ⟨[.ref h1.objs.size], [(Str.ofString "key", .ref f)]⟩) _ _ _
    rw [ksk_t1]
    have up : ∀ {g : Heap}, PySem.W.KeepsBut h1.objs.size (h1.push (seqObj "list" acc.toList.toArray 0)) g → ∀ b o, h1.get? b = some o → g.get? b = some o := fun {g} kp b o e =>
      kp b o (Nat.ne_of_lt (Heap.lt_size e)) (Heap.get?_push_of_some _ e)
    refine PySem.W.keyH_tree (kz := (List.range n).map k) (vs := acc.toList) (s := { s with heap := h1.push (seqObj "list" acc.toList.toArray 0), toks := tk1 }) hoL (by rw [List.length_map, List.length_range, hl]) hz hal hk (fun d hd => ?_)
      (PySem.W.keyH_turns (s := { s with heap := h1.push (seqObj "list" acc.toList.toArray 0), toks := tk1 }) he fun v i ⟨t, e⟩ hi h tk kp => ?_) fun h2 tk2 out c kp hD ko => ?_
    · obtain ⟨i, _, e⟩ := List.mem_map.mp hd
      rw [← e]
      have := hu i
      show A.units + 1 + 1 + _ < _
      omega
    · rw [e]
      exact turn i t (List.mem_range.mp hi) h tk fun b o e => up kp b o (k1 b o e)
    · have lo : out.length = n := by
        rw [ko.length (by rw [List.length_map, List.length_range, hl]), hl]
      exact ⟨_, rfl, wpAny_pure ⟨_, rfl, q out c h1 h2 tk2 h1.objs.size k1 (up kp) (Nat.le_refl _) hD lo (PySem.W.keyedOut_each k ko he)⟩⟩
end K41

set_option maxHeartbeats 2000000
/-! K41S: the lambda as a key; greatest_order. -/
namespace K41
open PySem PySem.Spec PyProof.Rows L2
abbrev nHeld : Str := "held"
abbrev nIndex : Str := "index"
/-- the lambda's body -/
abbrev keyBody (x0 x1 : Nat) (p1 p2 p3 p4 p5 p6 p7 : Pos) : Expr := .Tuple [.BinOp (.Constant (.int 0) x0 p1) .Sub (.Subscript (.Name nHeld p2) (.Name nIndex p3) p4) p5, .Name nIndex p6] x1 p7
structure KeyScope (scope : Scope) : Prop where
  kind : scope.kind = .function
  co : scope.isCoroutine = false
  gen : scope.isGenerator = false
  names : scope.names = [(nIndex, .local), (nHeld, .free)]
theorem key_call {prog : Program} {w : World} {A : Around} {s : Shared} {f c' cc l : Addr} {q : Str} {params : Arguments} {scope : Scope} {cl : List (Str × Addr)} {pm ctv : Value} {its : List Value} {ns : List Int} {i : Nat} {t : Tok} {x0 x1 : Nat} {p1 p2 p3 p4 p5 p6 p7 : Pos}
    (hof : s.heap.get? f = some (PySem.W.kla_obj "<lambda>" q params (keyBody x0 x1 p1 p2 p3 p4 p5 p6 p7) scope cl pm c' ctv)) (S : KeyScope scope) (hroom : A.depth < recursionLimit) (hcode : s.heap.CodeRec (.ref c') q) (hlim : s.heap.NoLimit)
    (hbind : bindArgs (PySem.W.kla_fn "<lambda>" q params (keyBody x0 x1 p1 p2 p3 p4 p5 p6 p7) scope cl pm (.ref c') ctv) ⟨[.int (i : Nat) t], []⟩ = pure [(nIndex, .int (i : Nat) t)])
    (hcl : cl.lookup nHeld = some cc) (hcell : s.heap.IsCell cc (some (.ref l))) (hl : s.heap.IsList l its.toArray) (hi : IntsAre its ns) (hil : i < ns.length) (hz : ns.length ≤ 1000000) :
    wpAny (model prog w) A (call (.ref f) [.int (i : Nat) t]) (PySem.W.KeyPure (keyD ns i) s) (fun _ _ => False) s := by
  refine wpAny_call (PySem.W.kla_callFunE hroom hof rfl S.co S.gen rfl hcode ?_)
  rw [hbind]
  refine wpAny_pure (wpAny_newFunctionEnv (fun y hy => ?_) (fun y hy => ?_) (fun h₁ hns hsb => ⟨hlim.fresh _ hsb, ?_⟩) S.kind)
  · rw [S.names] at hy
    rcases List.mem_cons.mp hy with e | hy
    · rw [e]; intro z; cases z
    · rcases List.mem_cons.mp hy with e | hy
      · rw [e]; intro z; cases z
      · cases hy
  · rcases List.mem_cons.mp hy with e | hy
    · rw [e, S.names]; rfl
    · cases hy
  show codeAny _ _ (.expr (keyBody x0 x1 p1 p2 p3 p4 p5 p6 p7) (PySem.W.envX q scope s.heap.objs.size f (.ref c') cl)) _ _
  have kp : ∀ b o, s.heap.get? b = some o → h₁.get? b = some o := fun b o e => hsb.extBut b o (Nat.ne_of_lt (Heap.lt_size e)) (Heap.get?_push_of_some _ e)
  have kl : (PySem.W.envX q scope s.heap.objs.size f (.ref c') cl).kindOf nIndex = some .local := by
    show scope.names.lookup nIndex = _
    rw [S.names]; rfl
  have kf : (PySem.W.envX q scope s.heap.objs.size f (.ref c') cl).kindOf nHeld = some .free := by
    show scope.names.lookup nHeld = _
    rw [S.names]; rfl
  have hl1 : h₁.IsList l its.toArray := by
    obtain ⟨o, ho, r⟩ := hl
    exact ⟨o, kp _ _ ho, r⟩
  refine PySem.W.kla_codeExpr (wpAny_Tuple_spliced (args_cons (wpAny_BinOp (wpAny_Constant_int ?_))))
  refine Subscript_ (wpAny_Name (wpAny_loadName_free S.kind kf hcl (hcell.keeps kp) ?_))
  refine wpAny_Name (wpAny_loadName_local S.kind kl hns (v := .int (i : Nat) t) rfl ?_)
  refine item_list_intsR hl1 hi (by omega) (by omega) (by omega) fun t2 => ?_
  refine sub_int ?_
  refine args_cons (wpAny_Name (wpAny_loadName_local S.kind kl hns (v := .int (i : Nat) t) rfl ?_))
  refine args_nil ⟨(by show 2 ≤ sizeLine; decide), ?_⟩
  refine ⟨_, _, rfl, fun b o e => Heap.get?_push_of_some _ (kp b o e), ?_⟩
  exact .tuple (Heap.get?_push_size _ rfl) rfl rfl (.cons (.int _ _) (.cons (.int _ _) .nil))
/-- sorted(range(e), key=the lambda) -/
def tSortKey (K : PySem.W.Frag) (H0 : Hp) (TP : Addr) (TQ : Str) (te : TE) : TE := fun σ H Q => te σ H fun x H1 => ∃ (l : Addr) (ns : List Int), x = .int (ns.length : Nat) ∧ ns.length ≤ 1000 ∧ σ[1]? = some (some (.ref l)) ∧ SqL K H1 l (ns.map V.int) ∧ LamX.TabS H1 TP TQ ∧
  ∀ (H2 : Hp) (p : Addr), LamX.ExtN H1 H2 → (∀ b ps, H0 b = some (.tbl ps) → ∃ ps', H2 b = some (.tbl ps')) → LamX.TabS H2 TP TQ → H2 p = none → Q (.ref p) (upd H2 p (.lst ((ord ns).map fun i => V.int (i : Nat))))
theorem pe_sortKey {X : Cx} {e : Expr} {te : TE} {params : Arguments} {scope : Scope} {x0 x1 k : Nat} {p p' p1 p2 p3 p4 p5 p6 p7 lp kp rp pos : Pos} {TP c : Addr} {TQ : Str} (hc : X.calm = true) (hg : Gl X "sorted") (hm : X.mg "sorted" = none) (hg2 : Gl X "range") (hm2 : X.mg "range" = none) (he : PE X e te)
    (hk : X.env.scope.names.lookup nHeld = some NameKind.cell) (hN : X.N[1]? = some nHeld) (TB : LamX.TabB X.base X.mg c TP) (hcode : X.env.code = .ref c) (hq : X.env.qual ++ "<lambda>" = TQ) (hr : Room k X.A) (S : KeyScope scope) (hdef : defaultsOf params X.env = ([], []))
    (hbind : ∀ (cl : List (Str × Addr)) (pm cd ctv : Value) (u : Value), bindArgs (PySem.W.kla_fn "<lambda>" TQ params (keyBody x0 x1 p1 p2 p3 p4 p5 p6 p7) scope cl pm cd ctv) ⟨[u], []⟩ = pure [(nIndex, u)])
    (na : starEach [e] X.env = (false, eval e X.env) :: starEach [] X.env := by rfl) :
    PE X (.Call (.Name "sorted" p) [.Call (.Name "range" p') [e] [] rp] [⟨some "key", .Lambda params (keyBody x0 x1 p1 p2 p3 p4 p5 p6 p7) scope lp, kp⟩] pos) (tSortKey X.K X.H_0 TP TQ te) := by
  refine ⟨fun pins s σ H Q I h => ?_⟩
  refine wpAny_Call_Name_kw (ld_blt I hg hm bt_sorted ?_)
  refine PyProof.Rows.callWith_kw (args_cons (Call_ (ld_blt I hg2 hm2 boot_range (PyProof.Rows.callWith_type1 (one_arg he I h (fun v s1 x H1 I1 r1 q1 => ?_) na) na))))
  obtain ⟨l, ns, rfl, hlen, hs1, hS, hT, q⟩ := q1
  obtain ⟨tk0, rfl⟩ := r1
  refine call_range_1 (args_nil ?_)
  -- the range's object, pinned
  generalize hro : ({ cls := .type "range", data := .fields #[.int 0 s1.toks, .int (ns.length : Nat) tk0, .int 1 (s1.toks + 1)] } : Obj) = ro
  have I2 : Inv X pins σ H1 { s1 with heap := s1.heap.push ro, toks := s1.toks + 1 + 1 } := I1.kept fun b u e => Heap.get?_push_of_some _ e
  have I2p : Inv X ((s1.heap.objs.size, ro) :: pins) σ H1 { s1 with heap := s1.heap.push ro, toks := s1.toks + 1 + 1 } := I2.pins_of fun y hy => by
    rcases List.mem_cons.mp hy with e | hy
    · rw [e]
      refine ⟨by rw [← hro]; exact Heap.get?_push_size _ rfl, I1.hok.fresh (Nat.le_refl _), Nat.ne_of_gt I1.lt, I1.nofs (Nat.le_refl _), fun v z => ?_⟩
      rw [← hro] at z
      cases z
    · exact I2.pin y (List.mem_append_right _ hy)
  generalize hs2 : ({ s1 with heap := s1.heap.push ro, toks := s1.toks + 1 + 1 } : Shared) = s2 at I2p
  show wpAny _ _ (evalAll [(do let v ← eval (.Lambda params (keyBody x0 x1 p1 p2 p3 p4 p5 p6 p7) scope lp) X.env; standAt pos; pure v)]) _ _ _
  obtain ⟨ch, hch⟩ := I.ok.has nHeld (.inl hk)
  have hfree : ∀ y ∈ scope.names, y.2 = .free → ∃ c, X.env.cells.lookup y.1 = some c := fun y hy z => by
    rw [S.names] at hy
    rcases List.mem_cons.mp hy with e | hy
    · rw [e] at z; cases z
    · rcases List.mem_cons.mp hy with e | hy
      · rw [e]; exact ⟨ch, hch⟩
      · cases hy
  have hclo : cloFrom X.env.cells scope.names [] = [(nHeld, ch)] := by
    rw [S.names]
    show [(nHeld, (X.env.cells.lookup nHeld).getD 0)] = _
    rw [hch]
    rfl
  refine PyProof.Rows.evalAll_cons (wpAny_bind (LamX.lam_make2 (T := [(TP, TQ)]) I2p TB hcode (by rw [hq]; exact List.mem_cons_self ..) (fun y hy _ => ?_) (fun y hy => ?_) hdef hfree ?_))
  · rcases List.mem_cons.mp hy with e | hy
    · rw [e, hq]
    · cases hy
  · rcases List.mem_cons.mp hy with e | hy
    · rw [e]; exact hT
    · cases hy
  intro f c' pm' ctv H2 s3 I3 eN T2 hf hfn hfr hco
  refine wpAny_bind (wpAny_standAt (wpAny_pure (wpAny_evalAll_nil ?_)))
  show wpAny _ _ (call (.builtin "sorted") [.ref s1.heap.objs.size] [(Str.ofString "key", .ref f)]) _ _ s3
  rw [hq, hclo] at hf
  rw [hq] at hco
  have hro3 : s3.heap.get? s1.heap.objs.size = some ro := (I3.pin (s1.heap.objs.size, ro) (List.mem_append_right _ (List.mem_cons_self ..))).1
  have I4 : Inv X pins σ H2 s3 := I3.pins_of fun y hy => I3.pin y (by
    rcases List.mem_append.mp (List.mem_append_right X.pn hy) with a | b
    · exact List.mem_append_left _ a
    · exact List.mem_append_right _ (List.mem_cons_of_mem _ b))
  have hS2 : SqL X.K H2 l (ns.map V.int) := by
    rcases hS with (a | ⟨o, a⟩) | a
    · exact SqL.of (eN _ _ a fun ps z => by cases z)
    · exact .inl (.inr ⟨o, eN _ _ a fun ps z => by cases z⟩)
    · exact .inr a
  obtain ⟨its, rv, pl, hz⟩ := I4.list hS2
  have hi := rv.ints
  obtain ⟨m, hns, hlk⟩ := I4.loc
  obtain ⟨u, ru, lk⟩ := hlk 1 nHeld (.ref l) hN hs1 (.inr (.inl hk))
  obtain rfl : u = .ref l := ru
  have hcell : s3.heap.IsCell ch (some (.ref l)) := by
    rcases lk with ⟨k', _⟩ | ⟨_, c3, e3, z⟩
    · have k' : X.env.scope.names.lookup nHeld = some .local := k'
      rw [hk] at k'
      cases k'
    · rw [hch] at e3
      cases e3
      exact z
  have hcr : s3.heap.CodeRec (.ref c') TQ := by
    obtain ⟨⟨oc, vs, t, e1, e2, e3⟩, _, _⟩ := I4.hok c' _ hco
    exact ⟨c', oc, vs, t, rfl, e1, e2, e3⟩
  have hr3 : IsRange s3.heap s1.heap.objs.size 0 (ns.length : Int) 1 s1.toks tk0 (s1.toks + 1) := by
    rw [← hro] at hro3
    exact hro3
  refine sorted_rangeK (n := ns.length) (k := keyD ns) (I4.ok.hd hc) hr3 (by omega) (key_alike ns _) (key_sortable ns _) (fun i => ?_) (fun i z hlt h tk kk => ?_) fun out cc h1 h' tk a k1 k2 ha hat lo eo => ?_
  · rw [key_depth]
    have := hr.un
    omega
  · have hl3 := pl.isList
    refine key_call (s := { s3 with heap := h, toks := tk }) (kk _ _ hf) S hr.depth (hcr.keeps kk) (I4.nolimit.keeps kk) (hbind _ _ _ _ _) rfl (hcell.keeps kk) ?_ hi hlt (by omega)
    obtain ⟨o, ho, r⟩ := hl3
    exact ⟨o, kk _ _ ho, r⟩
  · have I5 : Inv X pins σ H2 { s3 with heap := h1, toks := tk } := I4.kept k1
    have hvals : Vals ((ord ns).map fun i => V.int (i : Nat)) out := by
      have key : ∀ {bs : List Nat} {us : List Value}, PySem.W.EachIs (fun v (i : Nat) => ∃ t, v = Value.int (i : Nat) t) us bs → Vals (bs.map fun i => V.int (i : Nat)) us := by
        intro bs us hh
        induction hh with
        | nil => exact .nil
        | cons a b ih => exact .cons a ih
      exact key eo
    have hzl : ((ord ns).map fun i => V.int (i : Nat)).length ≤ sizeLine := by
      rw [List.length_map, ord_len]
      exact sz_le (by omega)
    have new : ObjOk X.prog X.w (upd H2 a (.lst ((ord ns).map fun i => V.int (i : Nat)))) h' a (.lst ((ord ns).map fun i => V.int (i : Nat))) := ⟨hzl, out, cc, hvals, hat⟩
    refine ⟨.ref a, _, I5.laid (t' := tk) k2 ha new, rfl, q H2 a eN (fun b ps hb => ?_) (T2 _ (List.mem_cons_self ..)) (I5.hok.fresh ha)⟩
    obtain ⟨more, e⟩ := I4.base.tbls b ps hb
    exact ⟨_, e⟩
end K41

set_option maxHeartbeats 2000000
/-! K41H: greatest_order. -/
namespace K41
open PySem PySem.Spec PyProof.Rows L2
def TQ0 : Str := "greatest_order.<locals>.<lambda>"
abbrev dGr : He.Defn := ("greatest_order", none)
theorem pre_all {α : Type} : ∀ (g s : List α), ((List.range g.length).flatMap fun p => (g.drop p).take 1 ++ (s.drop p).take 1) = interl g s
  | [], s => rfl
  | x :: g, s => by
    have ih := pre_all g (s.drop 1)
    rw [List.length_cons, List.range_succ_eq_map, List.flatMap_cons, List.flatMap_map]
    have e : (fun p => ((x :: g).drop p.succ).take 1 ++ (s.drop p.succ).take 1) = fun p => (g.drop p).take 1 ++ ((s.drop 1).drop p).take 1 := by
      funext p
      rw [List.drop_succ_cons, List.drop_drop, Nat.add_comm 1 p]
    rw [e, ih]
    rfl
/-- the def's code object is the one that the facts tell -/
theorem cal_ofC {P : Program} {w : World} {K : PySem.W.Frag} {mg : Str → Option Value} {base : Heap} {k : Nat} {x : Str} {st : Stmt} {N ps : List Str} {sp : Sp} {f : Addr} {fd : FuncData} {p : He.Defn} (F : FnP K x st f fd) (S : FnScope N ps (defScope st)) (hm : mg x = some (.ref f)) (hf : f = He.fAd K p)
    (hb : ∀ (kV doc pm : Value) (an : Option Addr) (cdv ct : Value) (us : List Value), us.length = ps.length → bindArgs (PySem.W.fnOf x x (defArgs st) (defBody st) (defScope st) .none kV doc pm an cdv ct) ⟨us, []⟩ = pure (ps.zip us))
    (len : ∀ vs H Q E, sp vs H Q E → vs.length = ps.length)
    (hbody : ∀ (cdv : Value) (A : Around) (outer : List Env) (s : Shared) (H : Hp) (vs : List V) (Q : VK) (E : XK), cdv = .ref (He.codeOf K p) → Room k (A.deeper (envOfC x (defScope st) s.heap.objs.size f cdv)) → sp vs H Q E →
      ∃ t, PSs (cxOf CX0 P w K mg base N x (defScope st) f cdv A outer s H E).nox (defBody st) t ∧ t { nx := fun _ H' => Q .non H', rt := Q } (start N vs) H) : Cal P w K mg base (k + 1) x ps sp f fd := by
  refine ⟨?_, hm, F.kp, F.bindsN hb⟩
  obtain ⟨oc, od, dV, kV, doc, pm, an, cdv, ct, osl, e1, lk, hcd, h1, h2⟩ := F.ex
  subst e1
  obtain ⟨c, hc⟩ := He.codeIn_ref hcd
  have e2 : cdv = .ref (He.codeOf K p) := by
    rw [He.codeOf_eq (c := c) (by rw [← hf]; exact lk) hc]
    exact hc
  refine fn_of lk hcd S len (fun A outer s H vs Q E hr hsp => ?_)
  obtain ⟨t, a, b⟩ := hbody cdv A outer s H vs Q E e2 hr hsp
  exact ⟨t, a.nox, b⟩
def spGrOrder (TP : Addr) (TQ : Str) : Sp := fun vs H Q _ => ∃ (a : Addr) (ns : List Int), vs = [.ref a] ∧ IsSeq H a (ns.map V.int) ∧ Nn ns ∧ ns.length ≤ 1000 ∧ LamX.TabS H TP TQ ∧
  ∀ (H' : Hp) (r : Addr), (∀ d, Kp TP TQ d H H') → H r = none → H' r = some (.lst ((gro (ord ns)).map fun i => V.int (i : Nat))) → Q (.ref r) H'
section
variable {P : Program} {w : World} {K : PySem.W.Frag} {mg : Str → Option Value} {base : Heap} {f : Addr} {fd : FuncData} {f1 f2 f3 : Addr} {fd1 fd2 fd3 : FuncData} {TP : Addr}
theorem ok_greatest_order (T : Txt mg) (cchecked_margins : Cal P w K mg base 3 "checked_margins" ["margins"] spChecked f1 fd1) (F : FnP K "greatest_order" sgreatest_order f fd) (hm : mg "greatest_order" = some (.ref f)) (hf : f = He.fAd K dGr)
    (TB : LamX.TabB base mg (He.codeOf K dGr) TP) : Cal P w K mg base 4 "greatest_order" ["margins"] (spGrOrder TP TQ0) f fd := by
  refine cal_ofC F scgreatest_order hm hf (fun _ _ _ _ _ _ us hl => match us, hl with | [_], _ => rfl) (fun vs H Q E h => ?_) (fun cdv A outer s H vs Q E hcdv hr h => ?_)
  · obtain ⟨r, rows, rfl, _⟩ := h
    rfl
  obtain ⟨a, ns, rfl, hS, hn, hl, hT, q⟩ := h
  refine ⟨_, (pss_cons (ps_set (i := 1) scgreatest_order.nd rfl (Or.inr rfl) (pe_call cchecked_margins.ok (hr.mono (by omega)) (by rfl) cchecked_margins.mg cchecked_margins.kp cchecked_margins.b .nil pass0 (pa_cons (pv 0) pa_nil)))
      (pss_cons (ps_set (i := 2) scgreatest_order.nd rfl (Or.inl rfl) (pe_sortKey (TQ := TQ0) rfl (by rfl) T.sorted (by rfl) T.range (pe_callB call_len_seq (by rfl) T.len bt_len (pa_cons (pv 1) pa_nil)) rfl rfl TB hcdv rfl hr ⟨rfl, rfl, rfl, rfl⟩ (by rfl) (fun _ _ _ _ _ => rfl)))
      (pss_cons (ps_set (i := 4) scgreatest_order.nd rfl (Or.inl rfl) (pe_op op_fdiv (pe_op op_add (pe_callB call_len_seq (by rfl) T.len bt_len (pa_cons (pv 1) pa_nil)) pe_int) pe_int))
      (pss_cons (ps_par3 (i := 5) (j := 6) (l := 7) (by rfl) scgreatest_order.nd rfl rfl rfl (by decide) (by decide) (by decide) rfl rfl rfl (pa_cons (pe_slice sl_list (pv 2) po_none (po_some (pv 4))) (pa_cons (pe_revL (pe_slice sl_list (pv 2) (po_some (pv 4)) po_none)) (pa_cons (pe_lst pa_nil) pa_nil))) (by rfl))
      (pss_cons (ps_for PassesOwn.never rfl (pi_range1 (by rfl) T.range (pa_cons (pv 4) pa_nil)) (pg_name (i := 8) scgreatest_order.nd rfl (Or.inl rfl)) (pss_one (ps_expr (pe_bm PySem.F.plainAttrs_list PySem.F.slot_list_extend PySem.F.type_list_extend mt_extend (pv 7) (pa_cons (pe_op op_cat (pe_slice sl_list (pv 5) (po_some (pv 8)) (po_some (pe_op op_add (pv 8) pe_int))) (pe_slice sl_list (pv 6) (po_some (pv 8)) (po_some (pe_op op_add (pv 8) pe_int)))) pa_nil)))))
      (pss_one (ps_ret (pv 7)))))))), ?_⟩
  refine ⟨_, rfl, a, ns, rfl, hS, hn, fun H1 p s1 np hp => ?_⟩
  refine ⟨_, rfl, p, _, rfl, .inl (SqL.of hp), p, ns, ?_, hl, rfl, SqL.of hp, hT.ext s1, fun H2 o eN tb hT2 no => ?_⟩
  · rw [List.length_map]
  have k2 : ∀ d, Kp TP TQ0 d H H2 := fun d => by
    refine ⟨fun b u e => ?_, fun _ => hT2⟩
    by_cases h : ∃ ps, u = .tbl ps
    · obtain ⟨ps, rfl⟩ := h
      obtain ⟨ps', e'⟩ := tb b ps e
      exact ⟨_, e', fun _ n => absurd rfl (n ps)⟩
    · exact ⟨u, eN _ _ (s1 _ _ e) fun ps z => h ⟨ps, z⟩, fun _ _ => rfl⟩
  have hp2 : H2 p = some (.lst (ns.map V.int)) := eN _ _ hp fun ps z => by cases z
  generalize hH3 : upd H2 o _ = H3
  obtain ⟨s3, ho3⟩ := nw hH3 no
  have hol : ((ord ns).map fun i => V.int (i : Nat)).length = ns.length := by rw [List.length_map, ord_len]
  -- half
  refine ⟨_, rfl, p, _, rfl, .inl (SqL.of (s3 _ _ hp2)), _, _, rfl, rfl, _, _, rfl, rfl, ⟨by decide, by decide⟩, ?_⟩
  dsimp only
  rw [List.length_map, half_eq]
  -- great, small, found
  refine ⟨_, rfl, _, rfl, _, rfl, o, _, rfl, SqL.of ho3, fun g ng => ?_⟩
  rw [cut_to]
  generalize hH4 : upd H3 g _ = H4
  obtain ⟨s4, hg4⟩ := nw hH4 ng
  refine ⟨_, rfl, _, rfl, _, rfl, o, _, rfl, SqL.of (s4 _ _ ho3), fun l nl => ?_⟩
  rw [cut_from]
  generalize hH5 : upd H4 l _ = H5
  obtain ⟨s5, hl5⟩ := nw hH5 nl
  refine ⟨l, _, rfl, SqL.of hl5, fun m nm => ?_⟩
  generalize hH6 : upd H5 m _ = H6
  obtain ⟨s6, hm6⟩ := nw hH6 nm
  refine ⟨Nat.zero_le _, fun u nu => ⟨_, _, _, rfl, ?_⟩⟩
  generalize hH7 : upd H6 u _ = H7
  obtain ⟨s7, hu7⟩ := nw hH7 nu
  have hg7 := (s5.trans (s6.trans s7)) _ _ hg4
  have hm7 := s7 _ _ hm6
  generalize hG : (((ord ns).map fun i => V.int (i : Nat)).take ((ns.length + 1) / 2)) = G at hg7
  generalize hSm : (((ord ns).map fun i => V.int (i : Nat)).drop ((ns.length + 1) / 2)).reverse = Sm at hm7
  have hGl : G.length = (ns.length + 1) / 2 := by rw [← hG, List.length_take, hol]; omega
  have hSl : Sm.length ≤ (ns.length + 1) / 2 := by rw [← hSm, List.length_reverse, List.length_drop, hol]; omega
  have s37 : Same H3 H7 := s4.trans (s5.trans (s6.trans s7))
  have nu2 : H2 u = none := (s3.trans (s4.trans (s5.trans s6))).free nu
  have nu0 : H u = none := (k2 u).free nu2
  have hgu : g ≠ u := ne_of_none ((s5.trans s6) _ _ hg4) nu
  have hmu : m ≠ u := ne_of_none hm6 nu
  refine ⟨_, rfl, _, rfl, by omega, by omega, for_range (lo := 0) (n := (ns.length + 1) / 2)
    (fun i σ' H' => ∃ (v8 : Option V), σ' = [some (.ref a), some (.ref p), some (.ref o), none, some (.int (((ns.length + 1) / 2 : Nat) : Int)), some (.ref g), some (.ref m), some (.ref u), v8] ∧ Same H2 H' ∧ H' g = some (.lst G) ∧ H' m = some (.lst Sm) ∧ H' u = some (.lst ((List.range i).flatMap fun p => (G.drop p).take 1 ++ (Sm.drop p).take 1)))
    ⟨none, rfl, s3.trans s37, hg7, hm7, hu7⟩ ?_ ?_⟩
  · rintro i σ' H8 hi ⟨v8, rfl, s8, hg8, hm8, hu8⟩
    have e0 : (0 : Int) + (i : Int) = (i : Int) := Int.zero_add _
    rw [e0]
    refine ⟨_, rfl, .inl ⟨rfl, _, SqL.of hu8⟩, _, rfl, _, rfl, _, rfl, _, rfl, _, _, rfl, rfl, _, rfl, g, _, rfl, SqL.of hg8, fun q1 n1 => ?_⟩
    rw [cut_at]
    generalize hH9 : upd H8 q1 _ = H9
    obtain ⟨s9, h9⟩ := nw hH9 n1
    refine ⟨_, rfl, _, rfl, _, rfl, _, rfl, _, _, rfl, rfl, _, rfl, m, _, rfl, SqL.of (s9 _ _ hm8), fun q2 n2 => ?_⟩
    rw [cut_at]
    generalize hHa : upd H9 q2 _ = Ha
    obtain ⟨sa, ha⟩ := nw hHa n2
    refine ⟨q1, q2, _, _, rfl, rfl, sa _ _ h9, ha, sz_le ?_, fun q3 n3 => ?_⟩
    · rw [List.length_take, List.length_take]; omega
    generalize hHb : upd Ha q3 _ = Hb
    obtain ⟨sb, hb⟩ := nw hHb n3
    have s8b : Same H8 Hb := s9.trans (sa.trans sb)
    have hfl : ((List.range i).flatMap fun p => (G.drop p).take 1 ++ (Sm.drop p).take 1).length ≤ i * 2 := by
      have := flat_len (F := List.range i) (f := fun p => (G.drop p).take 1 ++ (Sm.drop p).take 1) (c := 2) (fun p _ => by rw [List.length_append, List.length_take, List.length_take]; omega)
      rw [List.length_range] at this
      exact this
    refine ⟨u, q3, _, _, rfl, rfl, s8b _ _ hu8, hb, sz_le ?_, ?_⟩
    · rw [List.length_append, List.length_take, List.length_take]; omega
    · refine ⟨some (.int i), rfl, Same.mut (s8.trans s8b) nu2, ?_, ?_, ?_⟩
      · rw [upd_ne hgu]; exact s8b _ _ hg8
      · rw [upd_ne hmu]; exact s8b _ _ hm8
      · rw [upd_same, List.range_succ, List.flatMap_append, List.flatMap_cons, List.flatMap_nil, List.append_nil]
  · rintro σ' H8 ⟨v8, rfl, s8, hg8, hm8, hu8⟩
    refine ⟨_, rfl, q H8 u (fun d => (k2 d).trans (Kp.of s8)) nu0 ?_⟩
    rw [hu8, ← hGl, pre_all, ← hG, ← hSm, gro_map]
    unfold gro
    rw [hol]
end
end K41

set_option maxHeartbeats 2000000
/-! K41I: order_right. -/
namespace K41
open PySem PySem.Spec PyProof.Rows L2
/-- all but tables stays -/
abbrev KA (TP : Addr) (TQ : Str) (H H' : Hp) : Prop := ∀ d, Kp TP TQ d H H'
section
variable {TP d p : Addr} {TQ : Str} {H H' : Hp} {xs : List V} {n : Int}
theorem KA.lst (k : KA TP TQ H H') (h : H p = some (.lst xs)) : H' p = some (.lst xs) := (k (p + 1)).lst h (Nat.ne_of_lt (Nat.lt_succ_self p))
theorem KA.dr (k : KA TP TQ H H') (h : Dr H d n) : Dr H' d n := by
  obtain ⟨x, y, z, a, r⟩ := h
  exact ⟨x, y, z, k.lst a, r⟩
end
def rgI (n : Nat) : List Int := (List.range n).map fun i : Nat => (i : Int)
theorem rgI_mem {n : Nat} {x : Int} : x ∈ rgI n ↔ 0 ≤ x ∧ x < n := by
  unfold rgI
  rw [List.mem_map]
  constructor
  · rintro ⟨i, hi, rfl⟩
    have := List.mem_range.mp hi
    omega
  · rintro ⟨h0, h1⟩
    exact ⟨x.toNat, List.mem_range.mpr (by omega), by omega⟩
theorem rgI_len (n : Nat) : (rgI n).length = n := by unfold rgI; rw [List.length_map, List.length_range]
theorem rgI_up (n : Nat) : (rgI n).Pairwise (· ≤ ·) := by
  unfold rgI
  rw [List.pairwise_map]
  exact List.pairwise_lt_range.imp fun h => by omega
theorem rgV_eq (n : Nat) : rgV 0 (n : Int) = (rgI n).map V.int := by
  unfold rgV rgI
  rw [List.map_map, show ((n : Int) - 0).toNat = n by omega]
  refine List.map_congr_left fun i _ => ?_
  show V.int (0 + (i : Int)) = V.int (i : Int)
  rw [Int.zero_add]
/-- the margins at the places l -/
def atP (ns l : List Int) : List Int := l.map fun x => ns.getD x.toNat 0
theorem lc_pick {K : PySem.W.Frag} {b : Addr} {ns l : List Int} {i : Nat} {te : TE} {vs : List Nat} {σ : L2.St} {H : Hp} {D : Addr} {Qd : Hp → Prop} (nD : H D = none) (hb : H b = some (.lst (l.map V.int))) (hw : ∀ x, wipe ((wipe σ vs).set i (some x)) vs = wipe σ vs)
    (he : ∀ (x : Int) (H2 : Hp) (R : VK), 0 ≤ x → x < ns.length → Same H H2 → R (.int (ns.getD x.toNat 0)) H2 → te ((wipe σ vs).set i (some (.int x))) H2 R) (hl : l.length < 1000000) (hin : ∀ x ∈ l, 0 ≤ x ∧ x < ns.length)
    (hd : ∀ H', Same H H' → H' D = some (.lst ((atP ns l).map V.int)) → Qd H') : LcD (Itl K b) (gName i) tYes te vs σ H D Qd := by
  refine lc_it (walk_list (K := K) (a := b) (xs := l.map V.int)) (fun n H' => Same H H' ∧ H' D = some (.lst ((atP ns (l.take n)).map V.int))) ⟨same_new nD _, upd_same⟩ (fun n H' _ p => SqL.of (p.1 _ _ hb)) ?_ ?_
  · rintro n x H' H2 hn ⟨s1, hD⟩ ⟨rfl, e1⟩
    obtain ⟨m, hm, rfl⟩ := int_at e1
    obtain ⟨h0, h1⟩ := hin m (List.mem_of_getElem? hm)
    refine ⟨hw _, yes_ (he m _ _ h0 h1 s1 ⟨_, hD, ?_, Same.mut s1 nD, ?_⟩)⟩
    · unfold atP
      rw [List.length_map, List.length_map, List.length_take]
      exact sz_lt (by omega)
    · rw [upd_same, take_at hm]
      unfold atP
      rw [List.map_append, List.map_append]
      rfl
  · rintro H' ⟨s1, hD⟩
    have e : l.take (l.map V.int).length = l := List.take_of_length_le (by rw [List.length_map]; exact Nat.le_refl _)
    rw [e] at hD
    exact hd H' s1 hD
def spOrderRight (TP : Addr) (TQ : Str) : Sp := fun vs H Q _ => ∃ (d a : Addr) (ns : List Int) (n : Int), vs = [.ref d, .ref a] ∧ H a = some (.lst (ns.map V.int)) ∧ a ≠ d ∧ Nn ns ∧ ns.length ≤ 1000 ∧ Dr H d n ∧ n ≤ 1000000000000 ∧ LamX.TabS H TP TQ ∧
  ∀ H', Dr H' d (n + 1) → Kp TP TQ d H H' → Q (.bl true) H'
theorem told_int (o : List Nat) : (o.map fun i => V.int (i : Nat)) = (o.map fun i : Nat => (i : Int)).map V.int := by
  rw [List.map_map]
  rfl
/-- what greatest_order tells, as ints -/
def toldI (ns : List Int) : List Int := (gro (ord ns)).map fun i : Nat => (i : Int)
theorem toldI_perm (ns : List Int) : (toldI ns).Perm (rgI ns.length) := ((gro_perm (ord ns)).trans (ord_perm ns)).map _
theorem toldI_at (ns : List Int) : atP ns (toldI ns) = gro (sd ns) := by
  unfold atP toldI
  rw [List.map_map, ← ord_sd, ← gro_map]
  rfl
section
variable {P : Program} {w : World} {K : PySem.W.Frag} {mg : Str → Option Value} {base : Heap} {f : Addr} {fd : FuncData} {f1 f2 f3 f4 f5 : Addr} {fd1 fd2 fd3 fd4 fd5 : FuncData} {TP : Addr}
theorem ok_order_right (T : Txt mg) (cgreatest_order : Cal P w K mg base 4 "greatest_order" ["margins"] (spGrOrder TP TQ0) f1 fd1) (c_law_pick : Cal P w K mg base 2 "_law_pick" ["_law_draws", "_law_some"] (spPick TP TQ0) f2 fd2) (c_law_same : Cal P w K mg base 3 "_law_same" ["_law_found", "_law_due"] (spSame 3) f3 fd3)
    (c_law_gaps : Cal P w K mg base 1 "_law_gaps" ["_law_margins"] spGaps f4 fd4) (c_law_most : Cal P w K mg base 1 "_law_most" ["_law_margins"] spMost f5 fd5) (F : FnP K "_law_order_right" s_law_order_right f fd) (hm : mg "_law_order_right" = some (.ref f)) :
    Cal P w K mg base 5 "_law_order_right" ["_law_draws", "_law_margins"] (spOrderRight TP TQ0) f fd := by
  refine cal_of F sc_law_order_right hm (fun _ _ _ _ _ _ us hl => match us, hl with | [_, _], _ => rfl) (fun vs H Q E h => ?_) (fun cdv A outer s H vs Q E hr h => ?_)
  · obtain ⟨d, a, ns, n, rfl, _⟩ := h
    rfl
  obtain ⟨d, a, ns, n, rfl, ha, nad, hn, hl, hD, hn2, hT, q⟩ := h
  refine ⟨_, (pss_cons (ps_set (i := 2) sc_law_order_right.nd rfl (Or.inl rfl) (pe_call cgreatest_order.ok (hr.mono (by omega)) (by rfl) cgreatest_order.mg cgreatest_order.kp cgreatest_order.b .nil pass0 (pa_cons (pe_call c_law_pick.ok (hr.mono (by omega)) (by rfl) c_law_pick.mg c_law_pick.kp c_law_pick.b .nil pass0 (pa_cons (pv 0) (pa_cons (pe_lst (pa_cons (pv 1) (pa_cons (pe_callTy call_tuple_of (by rfl) T.tuple bt_tuple (pa_cons (pv 1) pa_nil)) pa_nil))) pa_nil))) pa_nil)))
      (pss_cons (ps_if (PW.pt (pw_or (pt_not (pt_val (pe_callB call_isi (by rfl) T.isinstance bt_isinstance (pa_cons (pv 2) (pa_cons (pe_bltn (v := .ty "list") (by rfl) T.list bt_list rfl) pa_nil))))) (pw_or1 (pt_not (pt_val (pe_call c_law_same.ok (hr.mono (by omega)) (by rfl) c_law_same.mg c_law_same.kp c_law_same.b .nil pass0 (pa_cons (pe_callB cr_sortedI (by rfl) T.sorted bt_sorted (pa_cons (pv 2) pa_nil)) (pa_cons (pe_listRg (by rfl) (by rfl) T.list (prg_1 (by rfl) T.range (pe_callB call_len_seq (by rfl) T.len bt_len (pa_cons (pv 1) pa_nil)))) pa_nil)))))))) (pss_one (ps_ret pe_bl)) pss_nil)
      (pss_one (ps_ret (pe_and (pe_cmpR op_eq (pe_call c_law_gaps.ok (hr.mono (by omega)) (by rfl) c_law_gaps.mg c_law_gaps.kp c_law_gaps.b .nil pass0 (pa_cons (pe_lc (own := [("_law_k", 3)]) (g := gName 3) (tt := tYes) (by rfl) sc_law_order_right.nd (pi_list (pv 2)) (show BlkOk N_law_order_right (defScope s_law_order_right) _ _ from blkOk_by (by decide +kernel)) (fun _ _ _ _ _ => (pg_name (i := 3) sc_law_order_right.nd rfl (Or.inl rfl))) (fun _ _ _ _ _ => pts_nil) (fun _ _ _ _ _ => (pe_ix (ixLK (K := K) rfl) (pv 1) (pv 3) (fun _ _ => rfl)))) pa_nil)) (pe_call c_law_most.ok (hr.mono (by omega)) (by rfl) c_law_most.mg c_law_most.kp c_law_most.b .nil pass0 (pa_cons (pv 1) pa_nil)) (nomark _)) (pe_one (pe_cmpR (op_eqD hr.units) (pe_call cgreatest_order.ok (hr.mono (by omega)) (by rfl) cgreatest_order.mg cgreatest_order.kp cgreatest_order.b .nil pass0 (pa_cons (pe_callTy call_list_of (by rfl) T.list bt_list (pa_cons (pv 1) pa_nil)) pa_nil)) (pv 2) (nomark _)))))))), ?_⟩
  -- told
  refine ⟨_, rfl, _, rfl, _, rfl, a, _, rfl, .inl ⟨SqL.of ha, fun t nt => ?_⟩⟩
  generalize hH1 : upd H t _ = H1
  obtain ⟨s1, ht1⟩ := nw hH1 nt
  refine ⟨(by show 2 ≤ sizeLine; decide), fun l nl => ?_⟩
  generalize hH2 : upd H1 l _ = H2
  obtain ⟨s2, hl2⟩ := nw hH2 nl
  have s12 := s1.trans s2
  refine ⟨d, l, _, n, rfl, hl2, hD.ne (s1.free nl), List.cons_ne_nil _ _, by show 2 ≤ 1000; decide, hD.same s12, hn2, fun H3 x hx D3 k3 => ?_⟩
  have k03 : Kp TP TQ0 d H H3 := (Kp.of s12).trans k3
  have ha3 : H3 a = some (.lst (ns.map V.int)) := k03.lst ha nad
  have hxs : ∃ b, x = .ref b ∧ IsSeq H3 b (ns.map V.int) := by
    rcases List.mem_cons.mp hx with e | hx
    · exact ⟨a, e, .inl ha3⟩
    · rcases List.mem_cons.mp hx with e | hx
      · exact ⟨t, e, .inr (k3.tup (s2 _ _ ht1) (hD.ne nt))⟩
      · cases hx
  obtain ⟨b, rfl, hb⟩ := hxs
  refine ⟨b, ns, rfl, hb, hn, hl, k03.tab hT, fun H4 r k4 nr4 hr4 => ?_⟩
  rw [told_int] at hr4
  have hr4 : H4 r = some (.lst ((toldI ns).map V.int)) := hr4
  have ha4 := KA.lst k4 ha3
  have D4 : Dr H4 d (n + 1) := KA.dr k4 D3
  have k04 : Kp TP TQ0 d H H4 := k03.trans (k4 d)
  -- its kind, its places
  refine ⟨_, rfl, _, _, .type "list", .type "list", true, rfl, .ty _, .base (.lst hr4), kit_ty (by decide +kernel), true, rfl, iteF ?_⟩
  refine ⟨_, rfl, r, _, rfl, SqL.of hr4, fun ns' p pe up np => ?_⟩
  have e5 : ns' = rgI ns.length := List.Perm.eq_of_pairwise (le := fun a b : Int => a ≤ b) (fun a b _ _ h1 h2 => by omega) up (rgI_up _) (pe.trans (toldI_perm ns))
  subst e5
  generalize hH5 : upd H4 p _ = H5
  obtain ⟨s5, hp5⟩ := nw hH5 np
  refine ⟨_, rfl, a, _, rfl, .inl (SqL.of (s5 _ _ ha4)), _, rfl, .of_le (by omega) ?_ (by omega) (by omega), fun c nc => ?_⟩
  · rw [List.length_map]; omega
  rw [List.length_map, rgV_eq]
  generalize hH6 : upd H5 c _ = H6
  obtain ⟨s6, hc6⟩ := nw hH6 nc
  refine ⟨_, _, rfl, SameD.ints (n := 1) (s6 _ _ hp5) hc6 (by rw [rgI_len]; omega), fun H7 s7 => ⟨true, rfl, iteF ?_⟩⟩
  have s47 : Same H4 H7 := s5.trans (s6.trans s7)
  have hr7 := s47 _ _ hr4
  have ha7 := s47 _ _ ha4
  -- its gaps
  have hin : ∀ x ∈ toldI ns, 0 ≤ x ∧ x < ns.length := fun x hx => rgI_mem.mp ((toldI_perm ns).mem_iff.mp hx)
  have hlt : (toldI ns).length = ns.length := by rw [(toldI_perm ns).length_eq, rgI_len]
  refine ⟨_, rfl, r, rfl, ⟨_, SqL.of hr7⟩, fun D nD => lc_pick (ns := ns) nD hr7 (fun _ => rfl) (fun x H8 R x0 x1 s8 rr => ⟨_, rfl, _, rfl, a, _, x, _, rfl, rfl, SqL.of (s8 _ _ ha7), at_of (j := x.toNat) (by omega) ?_, rr⟩) (by omega) hin fun H8 s8 hD8 => ?_⟩
  · rw [List.getElem?_map, List.getD_eq_getElem?_getD, List.getElem?_eq_getElem (by omega)]
    rfl
  rw [toldI_at] at hD8
  have hg := gro_gap (row := sd ns) (hn.perm (sd_perm ns)) (sd_down ns)
  refine ⟨D, gro (sd ns), rfl, hD8, (hn.perm (sd_perm ns)).perm (gro_perm _), by rw [(gro_perm _).length_eq, sd_len]; exact hl, fun H9 s9 => ?_⟩
  have s49 := s47.trans (s8.trans s9)
  refine ⟨_, rfl, a, ns, rfl, s49 _ _ ha4, hn, hl, fun Ha sa => ?_⟩
  have s4a := s49.trans sa
  refine ⟨rfl, true, by rw [hg, decide_eq_true rfl], iteT ?_⟩
  -- told again
  refine ⟨_, rfl, a, _, rfl, .inl (SqL.of (s4a _ _ ha4)), fun l2 nl2 => ?_⟩
  generalize hHb : upd Ha l2 _ = Hb
  obtain ⟨sb, hb2⟩ := nw hHb nl2
  have s4b := s4a.trans sb
  refine ⟨l2, ns, rfl, .inl hb2, hn, hl, (k04.tab hT).ext s4b, fun Hc r2 kc nrc hrc => ?_⟩
  rw [told_int] at hrc
  have hrc : Hc r2 = some (.lst ((toldI ns).map V.int)) := hrc
  have hr1 := KA.lst kc (s4b _ _ hr4)
  refine ⟨_, rfl, eq_ints (SqL.of hrc) (SqL.of hr1) ?_⟩
  rw [decide_eq_true rfl]
  exact q Hc (KA.dr kc (D4.same s4b)) (k04.trans ((Kp.of s4b).trans (kc d)))
end
end K41

set_option maxHeartbeats 2000000
/-! K41J: few_right. -/
namespace K41
open PySem PySem.Spec PyProof.Rows L2
theorem atP_rg (ns : List Int) : atP ns (rgI ns.length) = ns := by
  unfold atP rgI
  rw [List.map_map]
  exact range_getD ns
/-- every order of the margins, by every order of their places -/
def allO (ns : List Int) : List (List Int) := (ords (rgI ns.length) [[]]).map (atP ns)
theorem allO_mem {ns m : List Int} : m ∈ allO ns ↔ m.Perm ns := by
  unfold allO
  rw [List.mem_map]
  constructor
  · rintro ⟨l, hl, rfl⟩
    have h := (ords_mem.mp hl).map fun x : Int => ns.getD x.toNat 0
    have e := atP_rg ns
    unfold atP at e ⊢
    rw [e] at h
    exact h
  · intro h
    obtain ⟨ws, h1, h2⟩ := perm_map (f := fun x : Int => ns.getD x.toNat 0) h (xs := rgI ns.length) (atP_rg ns).symm
    exact ⟨ws, ords_mem.mpr h1, h2⟩
theorem allO_len {ns : List Int} (h : ns.length ≤ 6) : (allO ns).length ≤ 117649 := by
  unfold allO
  rw [List.length_map]
  have h1 := ords_len (rgI ns.length) [[]] 0 (fun l hl => by simpa using hl) (by rw [rgI_len]; omega)
  rw [rgI_len] at h1
  have h3 : 7 ^ ns.length ≤ 7 ^ 6 := Nat.pow_le_pow_right (by decide) h
  have h4 : (7 : Nat) ^ 6 = 117649 := by decide
  simp only [List.length_cons, List.length_nil] at h1
  omega
def sums (ns : List Int) : List Int := (allO ns).map (gp 0)
theorem min_sums {ns : List Int} (hn : Nn ns) {m : Int} (hm : m ∈ sums ns) (hg : ∀ y ∈ sums ns, m ≤ y) : m = lst ns := by
  unfold sums at hm hg
  obtain ⟨l, hl, rfl⟩ := List.mem_map.mp hm
  have pl := allO_mem.mp hl
  have h1 := gap_ge (hn.perm pl)
  rw [lst_perm pl] at h1
  have pu := List.mergeSort_perm ns (fun a b => decide (a ≤ b))
  have h2 := hg _ (List.mem_map.mpr ⟨_, allO_mem.mpr pu, rfl⟩)
  have h3 := (isHill_iff (hn.perm pu)).mp (isHill_up (up_sort ns))
  rw [h3, lst_perm pu] at h2
  omega
theorem max_sums {ns : List Int} (hn : Nn ns) {m : Int} (hm : m ∈ sums ns) (hg : ∀ y ∈ sums ns, y ≤ m) : m = mst (sd ns) := by
  unfold sums at hm hg
  obtain ⟨l, hl, rfl⟩ := List.mem_map.mp hm
  have pl := allO_mem.mp hl
  have h1 := gap_le (hn.perm pl) ((sd_perm ns).trans pl.symm) (sd_down ns)
  have h2 := hg _ (List.mem_map.mpr ⟨_, allO_mem.mpr ((gro_perm (sd ns)).trans (sd_perm ns)), rfl⟩)
  rw [gro_gap (hn.perm (sd_perm ns)) (sd_down ns)] at h2
  omega
theorem sums_pos (ns : List Int) : 0 < (sums ns).length := by
  unfold sums
  rw [List.length_map]
  exact List.length_pos_of_mem (allO_mem.mpr (List.Perm.refl ns))
/-- the ints at p -/
def rd (H : Hp) (p : Addr) : List Int := match H p with
  | some (.lst xs) => xs.map fun v => match v with
    | .int i => i
    | _ => 0
  | _ => []
theorem rd_eq {H : Hp} {p : Addr} {l : List Int} (h : H p = some (.lst (l.map V.int))) : rd H p = l := by
  unfold rd
  rw [h]
  show (l.map V.int).map _ = l
  rw [List.map_map]
  exact (List.map_congr_left fun i _ => rfl).trans (List.map_id l)
/-- every address: an order of the margins -/
def OA (H : Hp) (d : Addr) (ns : List Int) (ps : List Addr) : Prop := ∀ p ∈ ps, p ≠ d ∧ ∃ m : List Int, m.Perm ns ∧ H p = some (.lst (m.map V.int))
theorem OA.kp {TP d : Addr} {TQ : Str} {H H' : Hp} {ns : List Int} {ps : List Addr} (h : OA H d ns ps) (k : Kp TP TQ d H H') : OA H' d ns ps := fun p hp => by
  obtain ⟨h1, m, h2, h3⟩ := h p hp
  exact ⟨h1, m, h2, k.lst h3 h1⟩
theorem OA.same {d : Addr} {H H' : Hp} {ns : List Int} {ps : List Addr} (h : OA H d ns ps) (s : Same H H') : OA H' d ns ps := fun p hp => by
  obtain ⟨h1, m, h2, h3⟩ := h p hp
  exact ⟨h1, m, h2, s _ _ h3⟩
def spFew (TP : Addr) (TQ : Str) : Sp := fun vs H Q _ => ∃ (d : Addr) (n : Int), vs = [.ref d] ∧ Dr H d n ∧ n ≤ 100000000000 ∧ LamX.TabS H TP TQ ∧ ∀ H', Dr H' d (n + 1000000) → Kp TP TQ d H H' → Q (.bl true) H'
section
variable {P : Program} {w : World} {K : PySem.W.Frag} {mg : Str → Option Value} {base : Heap} {f : Addr} {fd : FuncData} {f1 f2 f3 f4 f5 f6 f7 f8 f9 fa fb : Addr} {fd1 fd2 fd3 fd4 fd5 fd6 fd7 fd8 fd9 fda fdb : FuncData} {TP : Addr}
theorem ok_few_right (T : Txt mg) (c_law_draw : Cal P w K mg base 1 "_law_draw" ["_law_draws", "_law_many"] (spDraw TP TQ0) f1 fd1) (c_law_pick : Cal P w K mg base 2 "_law_pick" ["_law_draws", "_law_some"] (spPick TP TQ0) f2 fd2) (c_law_orders : Cal P w K mg base 1 "_law_orders" ["_law_things"] spOrders f3 fd3)
    (c_law_gaps : Cal P w K mg base 1 "_law_gaps" ["_law_margins"] spGaps f4 fd4) (c_law_same : Cal P w K mg base 3 "_law_same" ["_law_found", "_law_due"] (spSame 3) f5 fd5) (cleast_stack : Cal P w K mg base 4 "least_stack" ["margins"] spLeast f6 fd6) (cgreatest_stack : Cal P w K mg base 4 "greatest_stack" ["margins"] spGreatest f7 fd7)
    (c_law_mixed : Cal P w K mg base 2 "_law_mixed" ["_law_draws", "_law_some"] (spMixed TP TQ0) f8 fd8) (cis_least_order : Cal P w K mg base 4 "is_least_order" ["margins"] spIsLeast f9 fd9) (c_law_is_hill : Cal P w K mg base 1 "_law_is_hill" ["_law_margins"] spHill fa fda)
    (c_law_order_right : Cal P w K mg base 5 "_law_order_right" ["_law_draws", "_law_margins"] (spOrderRight TP TQ0) fb fdb) (F : FnP K "_law_few_right" s_law_few_right f fd) (hm : mg "_law_few_right" = some (.ref f)) :
    Cal P w K mg base 6 "_law_few_right" ["_law_draws"] (spFew TP TQ0) f fd := by
  refine cal_of F sc_law_few_right hm (fun _ _ _ _ _ _ us hl => match us, hl with | [_], _ => rfl) (fun vs H Q E h => ?_) (fun cdv A outer s H vs Q E hr h => ?_)
  · obtain ⟨d, n, rfl, _⟩ := h
    rfl
  obtain ⟨d, n, rfl, hD, hn2, hT, q⟩ := h
  refine ⟨_, (pss_cons (ps_set (i := 1) sc_law_few_right.nd rfl (Or.inr rfl) (pe_lc (own := [("_law_k", 2)]) (g := gName 2) (tt := tYes) (by rfl) sc_law_few_right.nd (pi_range1 (by rfl) T.range (pa_cons (pe_call c_law_draw.ok (hr.mono (by omega)) (by rfl) c_law_draw.mg c_law_draw.kp c_law_draw.b .nil pass0 (pa_cons (pv 0) (pa_cons pe_int pa_nil))) pa_nil)) (show BlkOk N_law_few_right (defScope s_law_few_right) _ _ from blkOk_by (by decide +kernel)) (fun _ _ _ _ _ => (pg_name (i := 2) sc_law_few_right.nd rfl (Or.inl rfl))) (fun _ _ _ _ _ => pts_nil) (fun _ _ _ _ _ => (pe_call c_law_pick.ok (hr.mono (by omega)) (by rfl) c_law_pick.mg c_law_pick.kp c_law_pick.b .nil pass0 (pa_cons (pv 0) (pa_cons (pe_lst (pa_cons pe_int (pa_cons pe_int (pa_cons pe_int (pa_cons pe_int (pa_cons pe_int (pa_cons pe_int (pa_cons pe_int pa_nil)))))))) pa_nil))))))
      (pss_cons (ps_setLc (i := 3) (own := [("_law_order", 4)]) (g := gName 4) (tt := tYes) rfl sc_law_few_right.nd rfl rfl (sw_true rfl rfl rfl (by decide +kernel)) (pi_list (pe_call c_law_orders.ok (hr.mono (by omega)) (by rfl) c_law_orders.mg c_law_orders.kp c_law_orders.b .nil pass0 (pa_cons (pe_listRg (by rfl) (by rfl) T.list (prg_1 (by rfl) T.range (pe_callB call_len_seq (by rfl) T.len bt_len (pa_cons (pv 1) pa_nil)))) pa_nil))) (show BlkOk N_law_few_right (defScope s_law_few_right) _ _ from blkOk_by (by decide +kernel)) (fun _ _ _ _ _ => (pg_name (i := 4) sc_law_few_right.nd rfl (Or.inl rfl))) (fun _ _ _ _ _ => pts_nil) (fun _ _ _ _ _ => (pe_lc (own := [("_law_k", 2)]) (g := gName 2) (tt := tYes) (by rfl) sc_law_few_right.nd (piLK (K := K) rfl (pv 4)) (show BlkOk N_law_few_right (relS _ (defScope s_law_few_right)) _ _ from blkOk_by (by decide +kernel)) (fun _ _ _ _ _ => (pg_name (i := 2) sc_law_few_right.nd rfl (Or.inl rfl))) (fun _ _ _ _ _ => pts_nil) (fun _ _ _ _ _ => (pe_ix (ixLK (K := K) rfl) (pv 1) (pv 2) (fun _ _ => rfl))))))
      (pss_cons (ps_setLc (i := 5) (own := [("_law_order", 4)]) (g := gName 4) (tt := tYes) rfl sc_law_few_right.nd rfl rfl (sw_true rfl rfl rfl (by decide +kernel)) (pi_list (pv 3)) (show BlkOk N_law_few_right (defScope s_law_few_right) _ _ from blkOk_by (by decide +kernel)) (fun _ _ _ _ _ => (pg_name (i := 4) sc_law_few_right.nd rfl (Or.inl rfl))) (fun _ _ _ _ _ => pts_nil) (fun _ _ _ _ _ => (pe_call c_law_gaps.ok (hr.mono (by omega)) (by rfl) c_law_gaps.mg c_law_gaps.kp c_law_gaps.b .nil pass0 (pa_cons (pv 4) pa_nil))))
      (pss_cons (ps_set (i := 6) sc_law_few_right.nd rfl (Or.inl rfl) (pe_call c_law_pick.ok (hr.mono (by omega)) (by rfl) c_law_pick.mg c_law_pick.kp c_law_pick.b .nil pass0 (pa_cons (pv 0) (pa_cons (pe_lst (pa_cons (pv 1) (pa_cons (pe_callTy call_tuple_of (by rfl) T.tuple bt_tuple (pa_cons (pv 1) pa_nil)) pa_nil))) pa_nil))))
      (pss_cons (ps_if (pt_not (pt_val (pe_call c_law_same.ok (hr.mono (by omega)) (by rfl) c_law_same.mg c_law_same.kp c_law_same.b .nil pass0 (pa_cons (pe_lst (pa_cons (pe_call cleast_stack.ok (hr.mono (by omega)) (by rfl) cleast_stack.mg cleast_stack.kp cleast_stack.b .nil pass0 (pa_cons (pv 6) pa_nil)) (pa_cons (pe_call cgreatest_stack.ok (hr.mono (by omega)) (by rfl) cgreatest_stack.mg cgreatest_stack.kp cgreatest_stack.b .nil pass0 (pa_cons (pv 6) pa_nil)) pa_nil))) (pa_cons (pe_lst (pa_cons (pe_callB (cr_min rfl) (by rfl) T.min bt_min (pa_cons (pv 5) pa_nil)) (pa_cons (pe_callB (cr_max rfl) (by rfl) T.max bt_max (pa_cons (pv 5) pa_nil)) pa_nil))) pa_nil))))) (pss_one (ps_ret pe_bl)) pss_nil)
      (pss_cons (ps_for PassesOwn.never rfl (pi_list (pe_op op_cat (pe_slice sl_list (pe_call c_law_mixed.ok (hr.mono (by omega)) (by rfl) c_law_mixed.mg c_law_mixed.kp c_law_mixed.b .nil pass0 (pa_cons (pv 0) (pa_cons (pv 3) pa_nil))) po_none (po_some pe_int)) (pe_lst (pa_cons (pe_callB cr_sortedI (by rfl) T.sorted bt_sorted (pa_cons (pv 1) pa_nil)) (pa_cons (pe_revL (pe_callB cr_sortedI (by rfl) T.sorted bt_sorted (pa_cons (pv 1) pa_nil))) pa_nil))))) (pg_name (i := 4) sc_law_few_right.nd rfl (Or.inl rfl)) (pss_cons (ps_set (i := 7) sc_law_few_right.nd rfl (Or.inl rfl) (pe_cmpR op_eq (pe_call c_law_gaps.ok (hr.mono (by omega)) (by rfl) c_law_gaps.mg c_law_gaps.kp c_law_gaps.b .nil pass0 (pa_cons (pv 4) pa_nil)) (pe_callB (cr_min rfl) (by rfl) T.min bt_min (pa_cons (pv 5) pa_nil)) (nomark _)))
      (pss_one (ps_if (PW.pt (pw_or (pt_not (pt_val (pe_call c_law_same.ok (hr.mono (by omega)) (by rfl) c_law_same.mg c_law_same.kp c_law_same.b .nil pass0 (pa_cons (pe_call cis_least_order.ok (hr.mono (by omega)) (by rfl) cis_least_order.mg cis_least_order.kp cis_least_order.b .nil pass0 (pa_cons (pv 4) pa_nil)) (pa_cons (pv 7) pa_nil))))) (pw_or1 (pt_cmpR op_ne (pe_call c_law_is_hill.ok (hr.mono (by omega)) (by rfl) c_law_is_hill.mg c_law_is_hill.kp c_law_is_hill.b .nil pass0 (pa_cons (pv 4) pa_nil)) (pv 7) (nomark _))))) (pss_one (ps_ret pe_bl)) pss_nil))))
      (pss_one (ps_ret (pe_call c_law_order_right.ok (hr.mono (by omega)) (by rfl) c_law_order_right.mg c_law_order_right.kp c_law_order_right.b .nil pass0 (pa_cons (pv 0) (pa_cons (pv 1) pa_nil))))))))))), ?_⟩
  -- the margins
  refine ⟨_, rfl, d, 7, n, rfl, hD, by decide, by decide, by omega, fun H1 r r0 r1 D1 k1 => ?_⟩
  refine ⟨_, rfl, by omega, by omega, fun D nD => lc_range (lo := 0) (n := r.toNat)
    (fun k H' => ∃ ms : List Int, H' D = some (.lst (ms.map V.int)) ∧ ms.length = k ∧ Nn ms ∧ Dr H' d (n + 1 + k) ∧ Kp TP TQ0 d H1 H') ⟨[], upd_same, rfl, (fun x hx => nomatch hx), ?_, Kp.of (same_new nD _)⟩ ?_ ?_⟩
  · exact (D1.upd (D1.ne nD)).mono (by omega)
  · rintro k H2 hk ⟨ms, hms, hml, hmn, D2, k2⟩
    refine ⟨rfl, yes_ ⟨_, rfl, (by show 7 ≤ sizeLine; decide), fun l nl => ?_⟩⟩
    generalize hH3 : upd H2 l _ = H3
    obtain ⟨s3, hl3⟩ := nw hH3 nl
    refine ⟨d, l, _, _, rfl, hl3, D2.ne nl, List.cons_ne_nil _ _, by show 7 ≤ 1000; decide, D2.same s3, by omega, fun H4 x hx D4 k4 => ?_⟩
    have hx : ∃ m : Int, x = .int m ∧ 0 ≤ m := by
      simp only [List.mem_cons, List.not_mem_nil, or_false] at hx
      rcases hx with e | e | e | e | e | e | e <;> exact ⟨_, e, by decide⟩
    obtain ⟨m, rfl, hm0⟩ := hx
    have k34 : Kp TP TQ0 d H2 H4 := (Kp.of s3).trans k4
    have nDd : D ≠ d := D1.ne nD
    have hms4 := k34.lst hms nDd
    refine ⟨_, hms4, ?_, ms ++ [m], ?_, ?_, ?_, ?_, (k2.trans k34).mut nD hms4⟩
    · rw [List.length_map]
      exact sz_lt (by omega)
    · rw [upd_same, List.map_append]
      rfl
    · rw [List.length_append, hml]
      rfl
    · intro z hz
      rcases List.mem_append.mp hz with hz | hz
      · exact hmn z hz
      · rw [List.mem_singleton.mp hz]
        exact hm0
    · exact (D4.upd nDd).mono (by omega)
  rintro H2 ⟨ns, ha2, hnl, hn, D2, k2⟩
  have nad : D ≠ d := D1.ne nD
  have k02 : Kp TP TQ0 d H H2 := k1.trans k2
  have hl6 : ns.length ≤ 6 := by omega
  have D2 : Dr H2 d (n + 7) := D2.mono (by omega)
  clear k1 k2 D1 nD r0 r1 hnl
  generalize D = a at ha2 nad
  dsimp only [tSeq]
  -- the orders
  refine ⟨_, rfl, a, _, rfl, .inl (SqL.of ha2), _, rfl, .of_le (by omega) ?_ (by omega) (by omega), fun c nc => ?_⟩
  · rw [List.length_map]; omega
  rw [List.length_map, rgV_eq]
  generalize hH3 : upd H2 c _ = H3
  obtain ⟨s3, hc3⟩ := nw hH3 nc
  refine ⟨c, _, rfl, hc3, by rw [rgI_len]; exact hl6, fun H4 r4 ps s4 nr4 hr4 hla => ?_⟩
  have hFl : (ords (rgI ns.length) [[]]).length ≤ 117649 := by
    have := allO_len hl6
    unfold allO at this
    rw [List.length_map] at this
    exact this
  have hFm : ∀ l ∈ ords (rgI ns.length) [[]], l.length ≤ 6 ∧ ∀ x ∈ l, 0 ≤ x ∧ x < ns.length := fun l hl => by
    have p1 := ords_mem.mp hl
    exact ⟨by rw [p1.length_eq, rgI_len]; exact hl6, fun x hx => rgI_mem.mp (p1.mem_iff.mp hx)⟩
  have eA : allO ns = (ords (rgI ns.length) [[]]).map (atP ns) := rfl
  generalize hF : ords (rgI ns.length) [[]] = F at hla hFl hFm eA
  have s24 : Same H2 H4 := s3.trans s4
  have ha4 := s24 _ _ ha2
  refine ⟨r4, rfl, ⟨_, SqL.of hr4⟩, fun D nD => lc_it (walk_list (K := K) (a := r4) (xs := ps.map V.ref))
    (fun i H' => ∃ qs : List Addr, H' D = some (.lst (qs.map V.ref)) ∧ Same H4 H' ∧ LA (fun p => H4 p = none ∧ p ≠ D) H' qs ((F.take i).map (atP ns))) ⟨[], upd_same, same_new nD _, trivial⟩ (fun i H' _ ⟨_, _, z, _⟩ => SqL.of (z _ _ hr4)) ?_ ?_⟩
  · rintro i x H5 H5' hi ⟨qs, hD5, s5, hq5⟩ ⟨rfl, hx⟩
    obtain ⟨p, hpi, rfl⟩ := ref_at hx
    obtain ⟨l, hli, np, hp4⟩ := hla.at hpi
    obtain ⟨hl1, hin⟩ := hFm l (List.mem_of_getElem? hli)
    have hp5 := s5 _ _ hp4
    refine ⟨rfl, yes_ ⟨_, rfl, p, rfl, ⟨_, SqL.of hp5⟩, fun D2 nD2 => lc_pick (ns := ns) nD2 hp5 (fun _ => rfl) (fun x H6 R x0 x1 s6 rr => ⟨_, rfl, _, rfl, a, _, x, _, rfl, rfl, SqL.of (s6 _ _ (s5 _ _ ha4)), at_of (j := x.toNat) (by omega) ?_, rr⟩) (by omega) hin fun H6 s6 hD6 => ?_⟩⟩
    · rw [List.getElem?_map, List.getD_eq_getElem?_getD, List.getElem?_eq_getElem (by omega)]
      rfl
    have n42 : H4 D2 = none := s5.free nD2
    refine ⟨_, s6 _ _ hD5, ?_, qs ++ [D2], ?_, Same.mut (s5.trans s6) nD, ?_⟩
    · rw [List.length_map, hq5.len, List.length_map, List.length_take]
      exact sz_lt (by omega)
    · rw [upd_same, List.map_append]
      rfl
    · have nD2D : D2 ≠ D := (ne_of_none hD5 nD2).symm
      rw [take_at hli, List.map_append]
      refine LA.app (hq5.mono fun z ys cz hz => ⟨cz, by rw [upd_ne cz.2]; exact s6 _ _ hz⟩) ⟨⟨⟨n42, nD2D⟩, ?_⟩, trivial⟩
      rw [upd_ne nD2D]
      exact hD6
  rintro H5 ⟨qs, hO5, s5, hq5⟩
  have e1 : F.take (ps.map V.ref).length = F := List.take_of_length_le (by rw [List.length_map, hla.len]; exact Nat.le_refl _)
  rw [e1, ← eA] at hq5
  have D5 : Dr H5 d (n + 7) := D2.same (s24.trans s5)
  have Od : D ≠ d := (D2.same s24).ne nD
  have hq5 : LA (fun p => p ≠ d) H5 qs (allO ns) := hq5.mono fun z ys cz hz => ⟨(D2.same s24).ne cz.1, hz⟩
  have hql : qs.length ≤ 117649 := by rw [hq5.len]; exact allO_len hl6
  have hoa5 : OA H5 d ns qs := fun p hp => by
    obtain ⟨j, hj⟩ := List.getElem?_of_mem hp
    obtain ⟨m, hm1, hm2, hm3⟩ := hq5.at hj
    exact ⟨hm2, m, allO_mem.mp (List.mem_of_getElem? hm1), hm3⟩
  have ha5 := s5 _ _ ha4
  have k05 : Kp TP TQ0 d H H5 := k02.trans (Kp.of (s24.trans s5))
  clear eA hFm hFl e1 hF
  generalize D = O at hO5 Od
  dsimp only [tSeq]
  -- the sums
  refine ⟨_, rfl, O, rfl, ⟨_, SqL.of hO5⟩, fun D nD => lc_it (walk_list (K := K) (a := O) (xs := qs.map V.ref))
    (fun i H' => Same H5 H' ∧ H' D = some (.lst ((((allO ns).take i).map (gp 0)).map V.int))) ⟨same_new nD _, upd_same⟩ (fun i H' _ z => SqL.of (z.1 _ _ hO5)) ?_ ?_⟩
  · rintro i x H6 H6' hi ⟨s6, hD6⟩ ⟨rfl, hx⟩
    obtain ⟨p, hpi, rfl⟩ := ref_at hx
    obtain ⟨m, hmi, _, hp5⟩ := hq5.at hpi
    have pm := allO_mem.mp (List.mem_of_getElem? hmi)
    refine ⟨rfl, yes_ ⟨_, rfl, p, m, rfl, s6 _ _ hp5, hn.perm pm, by rw [pm.length_eq]; omega, fun H7 s7 => ?_⟩⟩
    refine ⟨_, s7 _ _ hD6, ?_, Same.mut (s6.trans s7) nD, ?_⟩
    · have := allO_len hl6
      rw [List.length_map, List.length_map, List.length_take]
      exact sz_lt (by omega)
    · rw [upd_same, take_at hmi, List.map_append, List.map_append]
      rfl
  rintro H6 ⟨s6, hS6⟩
  have e2 : (allO ns).take (qs.map V.ref).length = allO ns := List.take_of_length_le (by rw [List.length_map, hq5.len]; exact Nat.le_refl _)
  rw [e2] at hS6
  have hS6 : H6 D = some (.lst ((sums ns).map V.int)) := hS6
  have Sd : D ≠ d := D5.ne nD
  have D6 : Dr H6 d (n + 7) := D5.same s6
  have ha6 := s6 _ _ ha5
  have hO6 := s6 _ _ hO5
  have hoa6 := hoa5.same s6
  have k06 : Kp TP TQ0 d H H6 := k05.trans (Kp.of s6)
  clear e2
  generalize D = S at hS6 Sd
  dsimp only [tSeq]
  -- handed
  refine ⟨_, rfl, _, rfl, _, rfl, a, _, rfl, .inl ⟨SqL.of ha6, fun t nt => ?_⟩⟩
  generalize hH7 : upd H6 t _ = H7
  obtain ⟨s7, ht7⟩ := nw hH7 nt
  refine ⟨(by show 2 ≤ sizeLine; decide), fun l nl => ?_⟩
  generalize hH8 : upd H7 l _ = H8
  obtain ⟨s8, hl8⟩ := nw hH8 nl
  have s68 := s7.trans s8
  refine ⟨d, l, _, n + 7, rfl, hl8, D6.ne (s7.free nl), List.cons_ne_nil _ _, by show 2 ≤ 1000; decide, D6.same s68, by omega, fun H9 x hx D9 k9 => ?_⟩
  have k69 : Kp TP TQ0 d H6 H9 := (Kp.of s68).trans k9
  have ha9 : H9 a = some (.lst (ns.map V.int)) := k69.lst ha6 nad
  have hxs : ∃ b, x = .ref b ∧ IsSeq H9 b (ns.map V.int) := by
    rcases List.mem_cons.mp hx with e | hx
    · exact ⟨a, e, .inl ha9⟩
    · rcases List.mem_cons.mp hx with e | hx
      · exact ⟨t, e, .inr (k9.tup (s8 _ _ ht7) (D6.ne nt))⟩
      · cases hx
  obtain ⟨b, rfl, hb⟩ := hxs
  have k09 : Kp TP TQ0 d H H9 := k06.trans k69
  have hO9 := k69.lst hO6 Od
  have hoa9 := hoa6.kp k69
  have hS9 := k69.lst hS6 Sd
  -- least, greatest
  refine ⟨_, rfl, b, ns, rfl, hb, hn, by omega, fun Ha sa => ?_⟩
  refine ⟨_, rfl, b, ns, rfl, hb.same sa, hn, by omega, fun Hb sb => ?_⟩
  refine ⟨(by show 2 ≤ sizeLine; decide), fun l1 nl1 => ?_⟩
  generalize hHc : upd Hb l1 _ = Hc
  obtain ⟨sc, hl1⟩ := nw hHc nl1
  have s9c : Same H9 Hc := sa.trans (sb.trans sc)
  refine ⟨_, rfl, S, sums ns, rfl, SqL.of (s9c _ _ hS9), sums_pos ns, fun m hm hg => ?_⟩
  obtain rfl := min_sums hn hm hg
  refine ⟨_, rfl, S, sums ns, rfl, SqL.of (s9c _ _ hS9), sums_pos ns, fun m hm hg => ?_⟩
  obtain rfl := max_sums hn hm hg
  refine ⟨(by show 2 ≤ sizeLine; decide), fun l2 nl2 => ?_⟩
  generalize hHd : upd Hc l2 _ = Hd
  obtain ⟨sd', hl2⟩ := nw hHd nl2
  refine ⟨_, _, rfl, SameD.ints (n := 1) (ns := [lst ns, mst (sd ns)]) (sd' _ _ hl1) hl2 (by show 2 ≤ 100000; decide), fun He se => ⟨true, rfl, iteF ?_⟩⟩
  have s9e : Same H9 He := s9c.trans (sd'.trans se)
  have ke : Kp TP TQ0 d H He := k09.trans (Kp.of s9e)
  have De : Dr He d (n + 7 + 1) := D9.same s9e
  have hae := s9e _ _ ha9
  have hOe := s9e _ _ hO9
  have hoae := hoa9.same s9e
  have hSe := s9e _ _ hS9
  -- the mixed ones
  refine ⟨_, rfl, _, rfl, d, O, qs, rd He, _, rfl, hOe, Od, fun p hp => ?_, by omega, De, by omega, fun Hf z qs' pq nz hz Df kf => ?_⟩
  · obtain ⟨h1, m, h2, h3⟩ := hoae p hp
    exact ⟨h1, by rw [rd_eq h3]; exact h3⟩
  have kf0 : Kp TP TQ0 d H Hf := ke.trans kf
  have haf := kf.lst hae nad
  have hSf := kf.lst hSe Sd
  have hoaf := hoae.kp kf
  refine ⟨_, rfl, z, _, rfl, SqL.of hz, fun u nu => ?_⟩
  rw [show cutV (qs'.map V.ref) none (some 12) = (qs'.take 12).map V.ref from (cut_to _ 12).trans List.map_take.symm]
  generalize hHg : upd Hf u _ = Hg
  obtain ⟨sg, hug⟩ := nw hHg nu
  refine ⟨_, rfl, a, ns, rfl, SqL.of (sg _ _ haf), fun ns1 p1 pe1 up1 np1 => ?_⟩
  generalize hHh : upd Hg p1 _ = Hh
  obtain ⟨sh, hp1⟩ := nw hHh np1
  have sfh := sg.trans sh
  refine ⟨_, rfl, a, ns, rfl, SqL.of (sfh _ _ haf), fun ns2 p2 pe2 up2 np2 => ?_⟩
  generalize hHi : upd Hh p2 _ = Hi
  obtain ⟨si, hp2⟩ := nw hHi np2
  refine ⟨p2, _, rfl, SqL.of hp2, fun p3 np3 => ?_⟩
  rw [← List.map_reverse]
  generalize hHj : upd Hi p3 _ = Hj
  obtain ⟨sj, hp3⟩ := nw hHj np3
  refine ⟨(by show 2 ≤ sizeLine; decide), fun l3 nl3 => ?_⟩
  generalize hHk : upd Hj l3 _ = Hk
  obtain ⟨sk, hl3⟩ := nw hHk nl3
  have sgk : Same Hg Hk := sh.trans (si.trans (sj.trans sk))
  refine ⟨u, l3, _, _, rfl, rfl, sgk _ _ hug, hl3, sz_le (by rw [List.length_map, List.length_take]; show _ + 2 ≤ _; omega), fun c nc => ?_⟩
  rw [show (qs'.take 12).map V.ref ++ [.ref p1, .ref p3] = (qs'.take 12 ++ [p1, p3]).map V.ref by rw [List.map_append]; rfl]
  generalize hHl : upd Hk c _ = Hl
  obtain ⟨sl, hcl⟩ := nw hHl nc
  have sfl : Same Hf Hl := sg.trans (sgk.trans sl)
  have hoal : OA Hl d ns (qs'.take 12 ++ [p1, p3]) := fun p hp => by
    rcases List.mem_append.mp hp with hp | hp
    · exact (hoaf.same sfl) p (pq.mem_iff.mp (List.mem_of_mem_take hp))
    · simp only [List.mem_cons, List.not_mem_nil, or_false] at hp
      rcases hp with e | e
      · rw [e]
        exact ⟨(Df.same sg).ne np1, ns1, pe1, (si.trans (sj.trans (sk.trans sl))) _ _ hp1⟩
      · rw [e]
        exact ⟨(Df.same (sfh.trans si)).ne np3, ns2.reverse, (List.reverse_perm _).trans pe2, (sk.trans sl) _ _ hp3⟩
  have hSl := sfl _ _ hSf
  have hal := sfl _ _ haf
  have Dl := Df.same sfl
  have kl := kf0.trans (Kp.of sfl)
  generalize qs'.take 12 ++ [p1, p3] = ws at hcl hoal
  refine ⟨c, rfl, ⟨_, SqL.of hcl⟩, for_it (walk_list (K := K) (a := c) (xs := ws.map V.ref))
    (fun i σ' H' => ∃ v4 v7 : Option V, σ' = [some (.ref d), some (.ref a), none, some (.ref O), v4, some (.ref S), some (.ref b), v7] ∧ Same Hl H') ⟨none, none, rfl, Same.refl _⟩ (fun i σ' H' _ ⟨_, _, _, z⟩ => SqL.of (z _ _ hcl)) ?_ ?_⟩
  · rintro i x σ' H' H'' hi ⟨v4, v7, rfl, s0⟩ ⟨rfl, hx⟩
    obtain ⟨p, hpi, rfl⟩ := ref_at hx
    obtain ⟨npd, m, pm, hpm⟩ := (hoal.same s0) p (List.mem_of_getElem? hpi)
    have hmn := hn.perm pm
    have hml : m.length ≤ 1000 := by rw [pm.length_eq]; omega
    refine ⟨_, rfl, p, m, rfl, hpm, hmn, hml, fun G1 g1 => ?_⟩
    refine ⟨_, rfl, S, sums ns, rfl, SqL.of ((s0.trans g1) _ _ hSl), sums_pos ns, fun y hy hg => ?_⟩
    obtain rfl := min_sums hn hy hg
    refine ⟨rfl, ?_⟩
    have ed : decide (V.int (gp 0 m) = V.int (lst ns)) = decide (gp 0 m = lst m) := by
      rw [lst_perm pm]
      by_cases e : gp 0 m = lst ns
      · rw [e, decide_eq_true rfl, decide_eq_true rfl]
      · rw [decide_eq_false e, decide_eq_false fun z => e (V.int.inj z)]
    refine ⟨_, rfl, p, m, rfl, .inl (g1 _ _ hpm), hmn, hml, fun G2 g2 => ⟨_, rfl, _, _, rfl, ?_, fun G3 g3 => ⟨true, rfl, iteF ?_⟩⟩⟩
    · rw [ed]
      exact SameD.bl _
    refine ⟨_, rfl, p, m, rfl, (g1.trans (g2.trans g3)) _ _ hpm, hmn, hml, fun G4 g4 => ⟨_, rfl, rfl, false, ?_, iteF ?_⟩⟩
    · rw [ed, isHill_dec hmn, decide_eq_true rfl]
      rfl
    · exact ⟨_, _, rfl, s0.trans (g1.trans (g2.trans (g3.trans g4)))⟩
  · rintro σ' H' ⟨v4, v7, rfl, s0⟩
    have kk : Kp TP TQ0 d H H' := kl.trans (Kp.of s0)
    refine ⟨_, rfl, _, rfl, d, a, ns, _, rfl, s0 _ _ hal, nad, hn, by omega, Dl.same s0, by omega, kk.tab hT, fun H2 D' k' => q H2 (D'.mono (by omega)) (kk.trans k')⟩
end
end K41

set_option maxHeartbeats 2000000
/-! K41L: many_right. -/
namespace K41
open PySem PySem.Spec PyProof.Rows L2
/-- two lists of the same plain things -/
theorem SameD.flat {n : Nat} {H : Hp} {a b : Addr} {xs : List V} (ha : H a = some (.lst xs)) (hb : H b = some (.lst xs)) (hl : xs.length ≤ 100000) (hx : ∀ x ∈ xs, (∃ i, x = .int i) ∨ ∃ b, x = .bl b) : SameD (n + 2) H (.ref a) (.ref b) :=
  .inr (.inr ⟨a, b, _, _, rfl, rfl, .inl ⟨ha, hb⟩, rfl, hl, fun i x y e1 e2 => by
    rw [e1] at e2
    cases e2
    rcases hx x (List.mem_of_getElem? e1) with ⟨k, rfl⟩ | ⟨k, rfl⟩
    · exact .int k
    · exact .bl k⟩)
section
variable {P : Program} {w : World} {K : PySem.W.Frag} {mg : Str → Option Value} {base : Heap} {f : Addr} {fd : FuncData} {f1 f2 f3 f4 f5 f6 f7 f8 f9 : Addr} {fd1 fd2 fd3 fd4 fd5 fd6 fd7 fd8 fd9 : FuncData} {TP : Addr}
theorem ok_many_right (T : Txt mg) (c_law_draw : Cal P w K mg base 1 "_law_draw" ["_law_draws", "_law_many"] (spDraw TP TQ0) f1 fd1) (c_law_pick : Cal P w K mg base 2 "_law_pick" ["_law_draws", "_law_some"] (spPick TP TQ0) f2 fd2) (c_law_same : Cal P w K mg base 3 "_law_same" ["_law_found", "_law_due"] (spSame 3) f3 fd3)
    (cleast_stack : Cal P w K mg base 4 "least_stack" ["margins"] spLeast f4 fd4) (cgreatest_stack : Cal P w K mg base 4 "greatest_stack" ["margins"] spGreatest f5 fd5) (cis_least_order : Cal P w K mg base 4 "is_least_order" ["margins"] spIsLeast f6 fd6) (c_law_is_hill : Cal P w K mg base 1 "_law_is_hill" ["_law_margins"] spHill f7 fd7)
    (c_law_most : Cal P w K mg base 1 "_law_most" ["_law_margins"] spMost f8 fd8) (c_law_order_right : Cal P w K mg base 5 "_law_order_right" ["_law_draws", "_law_margins"] (spOrderRight TP TQ0) f9 fd9) (F : FnP K "_law_many_right" s_law_many_right f fd) (hm : mg "_law_many_right" = some (.ref f)) :
    Cal P w K mg base 6 "_law_many_right" ["_law_draws"] (spFew TP TQ0) f fd := by
  refine cal_of F sc_law_many_right hm (fun _ _ _ _ _ _ us hl => match us, hl with | [_], _ => rfl) (fun vs H Q E h => ?_) (fun cdv A outer s H vs Q E hr h => ?_)
  · obtain ⟨d, n, rfl, _⟩ := h
    rfl
  obtain ⟨d, n, rfl, hD, hn2, hT, q⟩ := h
  refine ⟨_, (pss_cons (ps_set (i := 1) sc_law_many_right.nd rfl (Or.inr rfl) (pe_call c_law_pick.ok (hr.mono (by omega)) (by rfl) c_law_pick.mg c_law_pick.kp c_law_pick.b .nil pass0 (pa_cons (pv 0) (pa_cons (pe_lst (pa_cons pe_int (pa_cons pe_int pa_nil))) pa_nil))))
      (pss_cons (ps_setLc (i := 2) (own := [("_law_k", 3)]) (g := gName 3) (tt := tYes) rfl sc_law_many_right.nd rfl rfl (sw_true rfl rfl rfl (by decide +kernel)) (pi_range1 (by rfl) T.range (pa_cons (pe_op op_add pe_int (pe_call c_law_draw.ok (hr.mono (by omega)) (by rfl) c_law_draw.mg c_law_draw.kp c_law_draw.b .nil pass0 (pa_cons (pv 0) (pa_cons pe_int pa_nil)))) pa_nil)) (show BlkOk N_law_many_right (defScope s_law_many_right) _ _ from blkOk_by (by decide +kernel)) (fun _ _ _ _ _ => (pg_name (i := 3) sc_law_many_right.nd rfl (Or.inl rfl))) (fun _ _ _ _ _ => pts_nil) (fun _ _ _ _ _ => (pe_call c_law_draw.ok (hr.mono (by omega)) (by rfl) c_law_draw.mg c_law_draw.kp c_law_draw.b .nil pass0 (pa_cons (pv 0) (pa_cons (pv 1) pa_nil)))))
      (pss_cons (ps_set (i := 4) sc_law_many_right.nd rfl (Or.inl rfl) (pe_lst (pa_cons (pe_call cleast_stack.ok (hr.mono (by omega)) (by rfl) cleast_stack.mg cleast_stack.kp cleast_stack.b .nil pass0 (pa_cons (pv 2) pa_nil)) (pa_cons (pe_call cgreatest_stack.ok (hr.mono (by omega)) (by rfl) cgreatest_stack.mg cgreatest_stack.kp cgreatest_stack.b .nil pass0 (pa_cons (pv 2) pa_nil)) (pa_cons (pe_call cis_least_order.ok (hr.mono (by omega)) (by rfl) cis_least_order.mg cis_least_order.kp cis_least_order.b .nil pass0 (pa_cons (pv 2) pa_nil)) (pa_cons (pe_call cis_least_order.ok (hr.mono (by omega)) (by rfl) cis_least_order.mg cis_least_order.kp cis_least_order.b .nil pass0 (pa_cons (pe_callB cr_sortedI (by rfl) T.sorted bt_sorted (pa_cons (pv 2) pa_nil)) pa_nil)) pa_nil))))))
      (pss_cons (ps_set (i := 5) sc_law_many_right.nd rfl (Or.inl rfl) (pe_lst (pa_cons (pe_op op_add (pe_callB (cr_sum rfl) (by rfl) T.sum bt_sum (pa_cons (pv 2) pa_nil)) (pe_callB (cr_max rfl) (by rfl) T.max bt_max (pa_cons (pv 2) pa_nil))) (pa_cons (pe_call c_law_most.ok (hr.mono (by omega)) (by rfl) c_law_most.mg c_law_most.kp c_law_most.b .nil pass0 (pa_cons (pv 2) pa_nil)) (pa_cons (pe_call c_law_is_hill.ok (hr.mono (by omega)) (by rfl) c_law_is_hill.mg c_law_is_hill.kp c_law_is_hill.b .nil pass0 (pa_cons (pv 2) pa_nil)) (pa_cons pe_bl pa_nil))))))
      (pss_one (ps_ret (pe_and (pe_call c_law_same.ok (hr.mono (by omega)) (by rfl) c_law_same.mg c_law_same.kp c_law_same.b .nil pass0 (pa_cons (pv 4) (pa_cons (pv 5) pa_nil))) (pe_one (pe_call c_law_order_right.ok (hr.mono (by omega)) (by rfl) c_law_order_right.mg c_law_order_right.kp c_law_order_right.b .nil pass0 (pa_cons (pv 0) (pa_cons (pv 2) pa_nil))))))))))), ?_⟩
  -- the most
  refine ⟨_, rfl, (by show 2 ≤ sizeLine; decide), fun l nl => ?_⟩
  generalize hH1 : upd H l _ = H1
  obtain ⟨s1, hl1⟩ := nw hH1 nl
  refine ⟨d, l, _, n, rfl, hl1, hD.ne nl, List.cons_ne_nil _ _, by show 2 ≤ 1000; decide, hD.same s1, by omega, fun H2 x hx D2 k2 => ?_⟩
  have hx : ∃ m : Int, x = .int m ∧ 0 < m ∧ m < 1073741824 := by
    simp only [List.mem_cons, List.not_mem_nil, or_false] at hx
    rcases hx with e | e <;> exact ⟨_, e, by decide, by decide⟩
  obtain ⟨M, rfl, hM0, hM1⟩ := hx
  have k02 : Kp TP TQ0 d H H2 := (Kp.of s1).trans k2
  dsimp only [tSeq]
  -- the margins
  refine ⟨_, rfl, d, 40, _, rfl, D2, by decide, by decide, by omega, fun H3 r r0 r1 D3 k3 => ?_⟩
  refine ⟨_, _, rfl, rfl, _, rfl, by omega, by omega, fun D nD => lc_range (lo := 0) (n := (1 + r).toNat)
    (fun k H' => ∃ ms : List Int, H' D = some (.lst (ms.map V.int)) ∧ ms.length = k ∧ Nn ms ∧ Dr H' d (n + 2 + k) ∧ Kp TP TQ0 d H3 H') ⟨[], upd_same, rfl, (fun x hx => nomatch hx), ?_, Kp.of (same_new nD _)⟩ ?_ ?_⟩
  · exact (D3.upd (D3.ne nD)).mono (by omega)
  · rintro k H4 hk ⟨ms, hms, hml, hmn, D4, k4⟩
    refine ⟨rfl, yes_ ⟨_, rfl, _, rfl, d, M, _, rfl, D4, hM0, hM1, by omega, fun H5 m m0 m1 D5 k5 => ?_⟩⟩
    have nDd : D ≠ d := D3.ne nD
    have hms5 := k5.lst hms nDd
    refine ⟨_, hms5, ?_, ms ++ [m], ?_, ?_, ?_, ?_, (k4.trans k5).mut nD hms5⟩
    · rw [List.length_map]
      exact sz_lt (by omega)
    · rw [upd_same, List.map_append]
      rfl
    · rw [List.length_append, hml]
      rfl
    · intro z hz
      rcases List.mem_append.mp hz with hz | hz
      · exact hmn z hz
      · rw [List.mem_singleton.mp hz]
        exact m0
    · exact (D5.upd nDd).mono (by omega)
  rintro H4 ⟨ns, ha4, hnl, hn, D4, k4⟩
  have nad : D ≠ d := D3.ne nD
  have k04 : Kp TP TQ0 d H H4 := k02.trans (k3.trans k4)
  have hpos : 0 < ns.length := by omega
  have hl50 : ns.length ≤ 50 := by omega
  have D4 : Dr H4 d (n + 100) := D4.mono (by omega)
  clear k3 k4 D3 nD r0 r1 hnl k2 k02 D2
  generalize D = a at ha4 nad
  dsimp only [tSeq]
  -- found
  refine ⟨_, rfl, a, ns, rfl, .inl ha4, hn, by omega, fun H5 s5 => ?_⟩
  refine ⟨_, rfl, a, ns, rfl, .inl (s5 _ _ ha4), hn, by omega, fun H6 s6 => ?_⟩
  have s46 := s5.trans s6
  refine ⟨_, rfl, a, ns, rfl, .inl (s46 _ _ ha4), hn, by omega, fun H7 s7 => ?_⟩
  have s47 := s46.trans s7
  refine ⟨_, rfl, a, ns, rfl, SqL.of (s47 _ _ ha4), fun up p1 pe1 up1 np1 => ?_⟩
  generalize hH8 : upd H7 p1 _ = H8
  obtain ⟨s8, hp8⟩ := nw hH8 np1
  refine ⟨p1, up, rfl, .inl hp8, hn.perm pe1, by rw [pe1.length_eq]; omega, fun H9 s9 => ?_⟩
  refine ⟨(by show 4 ≤ sizeLine; decide), fun l1 nl1 => ?_⟩
  have eup : decide (gp 0 up = lst up) = true := decide_eq_true ((isHill_iff (hn.perm pe1)).mp (isHill_up up1))
  rw [eup]
  generalize hHa : upd H9 l1 _ = Ha
  obtain ⟨sa, hla⟩ := nw hHa nl1
  have s4a : Same H4 Ha := s47.trans (s8.trans (s9.trans sa))
  dsimp only [tSeq]
  -- due
  refine ⟨_, rfl, a, ns, rfl, SqL.of (s4a _ _ ha4), _, rfl, a, ns, rfl, SqL.of (s4a _ _ ha4), hpos, fun m hm hg => ⟨_, _, rfl, rfl, ?_⟩⟩
  obtain rfl := mxr_eq hn hm hg
  refine ⟨_, rfl, a, ns, rfl, s4a _ _ ha4, hn, by omega, fun Hb sb => ?_⟩
  refine ⟨_, rfl, a, ns, rfl, (s4a.trans sb) _ _ ha4, hn, by omega, fun Hc sc => ?_⟩
  refine ⟨(by show 4 ≤ sizeLine; decide), fun l2 nl2 => ?_⟩
  rw [isHill_dec hn]
  generalize hHd : upd Hc l2 _ = Hd
  obtain ⟨sd', hl2⟩ := nw hHd nl2
  have sad : Same Ha Hd := sb.trans (sc.trans sd')
  refine ⟨_, rfl, _, rfl, _, _, rfl, SameD.flat (n := 1) (sad _ _ hla) hl2 (by show 4 ≤ 100000; decide) (fun x hx => ?_), fun He se => ⟨true, rfl, iteT ?_⟩⟩
  · simp only [List.mem_cons, List.not_mem_nil, or_false] at hx
    rcases hx with e | e | e | e
    · exact .inl ⟨_, e⟩
    · exact .inl ⟨_, e⟩
    · exact .inr ⟨_, e⟩
    · exact .inr ⟨_, e⟩
  have s4e : Same H4 He := s4a.trans (sad.trans se)
  have kk : Kp TP TQ0 d H He := k04.trans (Kp.of s4e)
  exact ⟨_, rfl, _, rfl, d, a, ns, _, rfl, s4e _ _ ha4, nad, hn, by omega, D4.same s4e, by omega, kk.tab hT, fun H2 D' k' => q H2 (D'.mono (by omega)) (kk.trans k')⟩
end
end K41

set_option maxHeartbeats 2000000
/-! K41M: rows; what follows a bent row. -/
namespace K41
open PySem PySem.Spec PyProof.Rows L2
theorem moved_all {pre suf : List Row} {x x' : Row} (hs : suf ≠ []) : ∃ d, List.zipWith (fun x y => y - x) ((stk 0 0 (pre ++ x :: suf)).drop (pre.length + 1)) ((stk 0 0 (pre ++ x' :: suf)).drop (pre.length + 1)) ++ [stkE 0 0 (pre ++ x' :: suf) - stkE 0 0 (pre ++ x :: suf)] = List.replicate (suf.length + 1) d := by
  have dr : ∀ y : Row, (stk 0 0 (pre ++ y :: suf)).drop (pre.length + 1) = stk (stkF 0 0 (pre ++ [y])) (stkA 0 (pre ++ [y])) suf := fun y => by
    rw [show pre ++ y :: suf = (pre ++ [y]) ++ suf by simp, stk_app]
    have e : pre.length + 1 = (stk 0 0 (pre ++ [y])).length := by rw [stk_len, List.length_append]; rfl
    rw [e, List.drop_left]
  have en : ∀ y : Row, stkE 0 0 (pre ++ y :: suf) = stkE (stkF 0 0 (pre ++ [y])) (stkA 0 (pre ++ [y])) suf := fun y => by
    rw [show pre ++ y :: suf = (pre ++ [y]) ++ suf by simp]
    unfold stkE
    rw [stkF_app (pre ++ [y]) suf, stkA_app (pre ++ [y]) suf]
  rw [dr, dr, en, en]
  obtain ⟨d, e1, e2⟩ := moved hs (stkF 0 0 (pre ++ [x])) (stkA 0 (pre ++ [x])) (stkF 0 0 (pre ++ [x'])) (stkA 0 (pre ++ [x']))
  refine ⟨d, ?_⟩
  rw [e1, e2]
  generalize hL : stk (stkF 0 0 (pre ++ [x])) (stkA 0 (pre ++ [x])) suf = L
  have hl : L.length = suf.length := by rw [← hL, stk_len]
  have z : ∀ L : List Int, List.zipWith (fun x y => y - x) L (L.map (· + d)) = List.replicate L.length d := by
    intro L
    induction L with
    | nil => rfl
    | cons a L ih =>
      rw [List.map_cons, List.zipWith_cons_cons, ih, List.length_cons, List.replicate_succ]
      congr 1
      omega
  rw [z, hl, List.replicate_succ']
  congr 2
  omega
theorem stk_pre {pre suf : List Row} : (stk 0 0 (pre ++ suf)).take pre.length = stk 0 0 pre := by
  rw [stk_app]
  have e : pre.length = (stk 0 0 pre).length := (stk_len pre 0 0).symm
  rw [e, List.take_left]
/-- rows as tuples -/
def RT (H : Hp) (d : Addr) : List Addr → List Row → Prop
  | [], [] => True
  | p :: ps, x :: rs => (p ≠ d ∧ H p = some (.tup (rv x))) ∧ RT H d ps rs
  | _, _ => False
theorem RT.len {H : Hp} {d : Addr} : ∀ {ps : List Addr} {rs : List Row}, RT H d ps rs → ps.length = rs.length
  | [], [], _ => rfl
  | p :: ps, x :: rs, h => by rw [List.length_cons, List.length_cons, RT.len h.2]
  | [], _ :: _, h => h.elim
  | _ :: _, [], h => h.elim
theorem RT.at {H : Hp} {d : Addr} : ∀ {ps : List Addr} {rs : List Row} {i : Nat} {p : Addr} {x : Row}, RT H d ps rs → ps[i]? = some p → rs[i]? = some x → p ≠ d ∧ H p = some (.tup (rv x))
  | [], [], _, _, _, _, e, _ => by simp at e
  | q :: ps, y :: rs, 0, p, x, h, e, e' => by
    have e1 : q = p := Option.some.inj e
    have e2 : y = x := Option.some.inj e'
    subst e1 e2
    exact h.1
  | q :: ps, y :: rs, i + 1, p, x, h, e, e' => RT.at (i := i) h.2 e e'
  | [], _ :: _, _, _, _, h, _, _ => h.elim
  | _ :: _, [], _, _, _, h, _, _ => h.elim
theorem RT.mono {H H' : Hp} {d : Addr} : ∀ {ps : List Addr} {rs : List Row}, RT H d ps rs → (∀ p xs, p ≠ d → H p = some (.tup xs) → H' p = some (.tup xs)) → RT H' d ps rs
  | [], [], _, _ => trivial
  | p :: ps, x :: rs, h, k => ⟨⟨h.1.1, k p _ h.1.1 h.1.2⟩, RT.mono h.2 k⟩
  | [], _ :: _, h, _ => h.elim
  | _ :: _, [], h, _ => h.elim
theorem RT.same {H H' : Hp} {d : Addr} {ps : List Addr} {rs : List Row} (h : RT H d ps rs) (s : Same H H') : RT H' d ps rs := h.mono fun p xs _ e => s _ _ e
theorem RT.kp {TP : Addr} {TQ : Str} {H H' : Hp} {d : Addr} {ps : List Addr} {rs : List Row} (h : RT H d ps rs) (k : Kp TP TQ d H H') : RT H' d ps rs := h.mono fun p xs n e => k.tup e n
theorem RT.app {H : Hp} {d : Addr} : ∀ {ps : List Addr} {rs : List Row} {qs : List Addr} {ss : List Row}, RT H d ps rs → RT H d qs ss → RT H d (ps ++ qs) (rs ++ ss)
  | [], [], _, _, _, k => k
  | p :: ps, x :: rs, _, _, h, k => ⟨h.1, RT.app h.2 k⟩
  | [], _ :: _, _, _, h, _ => h.elim
  | _ :: _, [], _, _, h, _ => h.elim
theorem RT.take {H : Hp} {d : Addr} : ∀ {ps : List Addr} {rs : List Row} (n : Nat), RT H d ps rs → RT H d (ps.take n) (rs.take n)
  | [], [], n, h => by rw [List.take_nil, List.take_nil]; trivial
  | p :: ps, x :: rs, 0, h => trivial
  | p :: ps, x :: rs, n + 1, h => ⟨h.1, RT.take n h.2⟩
  | [], _ :: _, _, h => h.elim
  | _ :: _, [], _, h => h.elim
theorem RT.drop {H : Hp} {d : Addr} : ∀ {ps : List Addr} {rs : List Row} (n : Nat), RT H d ps rs → RT H d (ps.drop n) (rs.drop n)
  | [], [], n, h => by rw [List.drop_nil, List.drop_nil]; trivial
  | p :: ps, x :: rs, 0, h => h
  | p :: ps, x :: rs, n + 1, h => RT.drop (ps := ps) (rs := rs) n h.2
  | [], _ :: _, _, h => h.elim
  | _ :: _, [], _, h => h.elim
theorem RT.rows {H : Hp} {d r : Addr} {ps : List Addr} {rs : List Row} (h : RT H d ps rs) (hr : H r = some (.lst (ps.map V.ref))) : RowsAt H r rs :=
  ⟨ps, .inl hr, h.len, fun i p x e1 e2 => .inr (h.at e1 e2).2⟩
def rowD (x : Row) : PyData := .tuple [.int x.1, .int x.2.1, .int x.2.2]
theorem dp_rows {K : PySem.W.Frag} {H : Hp} {d : Addr} : ∀ {ps : List Addr} {rs : List Row}, RT H d ps rs → DpAll K H (ps.map V.ref) (rs.map rowD)
  | [], [], _ => .nil
  | p :: ps, x :: rs, h => .cons (.tup (SqT.of h.1.2) (.cons (.int _) (.cons (.int _) (.cons (.int _) .nil)))) (dp_rows h.2)
  | [], _ :: _, h => h.elim
  | _ :: _, [], h => h.elim
theorem shaped_rows : ∀ rs : List Row, SeqAt.shaped (.list (rs.map rowD)) = true := by
  have h0 : ∀ x : Row, PyData.canLay0 (rowD x) = true := fun x => by
    unfold rowD
    simp [PyData.canLay0, PyData.canLayAll0]
  have d0 : ∀ x : Row, (rowD x).depth = 1 := fun x => by simp [rowD, PyData.depth, PyData.depthAll]
  have h1 : ∀ rs : List Row, PyData.canLayAll0 (rs.map rowD) = true := fun rs => by
    induction rs with
    | nil => rfl
    | cons l ls ih =>
      rw [List.map_cons, PyData.canLayAll0, ih, Bool.and_true]
      exact h0 l
  have h2 : ∀ rs : List Row, PyData.depthAll (rs.map rowD) ≤ 1 := fun rs => by
    induction rs with
    | nil => exact Nat.zero_le _
    | cons l ls ih =>
      rw [List.map_cons, PyData.depthAll, d0]
      omega
  intro rs
  unfold SeqAt.shaped
  rw [PyData.canLay0, h1, PyData.depth, Bool.true_and]
  have := h2 rs
  exact decide_eq_true (by omega)
theorem ne_rows {K : PySem.W.Frag} {H : Hp} {d a b : Addr} {ps : List Addr} {rs : List Row} {Q : VK} (hr : RT H d ps rs) (ha : H a = some (.lst (ps.map V.ref))) (hb : H b = some (.lst [])) (q : Q (.bl (!decide (rs = []))) H) : rNeD K (.ref a) (.ref b) H Q := by
  refine ⟨.list (rs.map rowD), .list [], .lst (SqL.of ha) (dp_rows hr), .lst (SqL.of hb) .nil, shaped_rows rs, by decide, ?_⟩
  have e : PyData.eqv (.list (rs.map rowD)) (.list []) = decide (rs = []) := by
    cases rs with
    | nil => rfl
    | cons x rs => rfl
  rw [e]
  exact q
end K41

set_option maxHeartbeats 4000000
/-! K41N: law. -/
namespace K41
open PySem PySem.Spec PyProof.Rows L2
def spLaw (K : PySem.W.Frag) (TP : Addr) (TQ : Str) : Sp := fun vs H Q _ => ∃ (a : Addr) (ns : List Int), vs = [.ref a] ∧ SqL K H a (ns.map V.int) ∧ ns.length ≤ 63 ∧ LamX.TabS H TP TQ ∧ ∀ H', Q (.bl true) H'
theorem RT.snoc {H : Hp} {d p : Addr} {x : Row} {ps : List Addr} {rs : List Row} (h : RT H d ps rs) (n : p ≠ d) (e : H p = some (.tup (rv x))) : RT H d (ps ++ [p]) (rs ++ [x]) := h.app ⟨⟨n, e⟩, trivial⟩
theorem rep_rep (dd : Int) (n : Nat) : (List.replicate (n + 1) (((List.replicate (n + 1) dd).map V.int).take 1)).flatten = (List.replicate (n + 1) dd).map V.int := by
  have e : ((List.replicate (n + 1) dd).map V.int).take 1 = [V.int dd] := by
    rw [List.replicate_succ]
    rfl
  have key : ∀ n : Nat, (List.replicate n [V.int dd]).flatten = (List.replicate n dd).map V.int := by
    intro n
    induction n with
    | zero => rfl
    | succ n ih =>
      rw [List.replicate_succ, List.flatten_cons, ih, List.replicate_succ, List.map_cons]
      rfl
  rw [e, key]
/-- the law's rows, one after the other -/
structure RowsL (TP : Addr) (TQ : Str) (H1 : Hp) (d m R : Addr) (menu : List V) (i : Nat) (H' : Hp) (ps : List Addr) (rs : List Row) : Prop where
  hR : H' R = some (.lst (ps.map V.ref))
  rt : RT H' d ps rs
  len : ps.length = i
  nn : RowsNn rs
  hm : H' m = some (.lst menu)
  dr : Dr H' d (1 + 3 * (i : Int))
  kp : Kp TP TQ d H1 H'
section
variable {P : Program} {w : World} {K : PySem.W.Frag} {mg : Str → Option Value} {base : Heap} {f : Addr} {fd : FuncData} {f1 f2 f3 f4 f5 f6 f7 f8 : Addr} {fd1 fd2 fd3 fd4 fd5 fd6 fd7 fd8 : FuncData} {TP : Addr}
theorem ok_law (T : Txt mg) (c_law_source : Cal P w K mg base 1 "_law_source" ["_law_script", "_law_place"] (spSource K) f1 fd1) (c_law_draw : Cal P w K mg base 1 "_law_draw" ["_law_draws", "_law_many"] (spDraw TP TQ0) f2 fd2) (c_law_pick : Cal P w K mg base 2 "_law_pick" ["_law_draws", "_law_some"] (spPick TP TQ0) f3 fd3)
    (cstack_of : Cal P w K mg base 4 "stack_of" ["rows"] spStack f4 fd4) (c_law_same : Cal P w K mg base 3 "_law_same" ["_law_found", "_law_due"] (spSame 3) f5 fd5) (c_law_stack : Cal P w K mg base 1 "_law_stack" ["_law_rows"] spLawStack f6 fd6)
    (c_law_few_right : Cal P w K mg base 6 "_law_few_right" ["_law_draws"] (spFew TP TQ0) f7 fd7) (c_law_many_right : Cal P w K mg base 6 "_law_many_right" ["_law_draws"] (spFew TP TQ0) f8 fd8) (F : FnP K "law" slaw f fd) (hm : mg "law" = some (.ref f)) :
    Cal P w K mg base 7 "law" ["_law_script"] (spLaw K TP TQ0) f fd := by
  refine cal_of F sclaw hm (fun _ _ _ _ _ _ us hl => match us, hl with | [_], _ => rfl) (fun vs H Q E h => ?_) (fun cdv A outer s H vs Q E hr h => ?_)
  · obtain ⟨a, ns, rfl, _⟩ := h
    rfl
  obtain ⟨a, ns, rfl, ha, hl, hT, q⟩ := h
  refine ⟨_, (pss_cons (ps_for PassesOwn.never rfl (pi_range1 (by rfl) T.range (pa_cons (pe_op op_add pe_int (pe_callB (call_min2 rfl) (by rfl) T.min bt_min (pa_cons (pe_callB call_len_seq (by rfl) T.len bt_len (pa_cons (pv 0) pa_nil)) (pa_cons pe_int pa_nil)))) pa_nil)) (pg_name (i := 1) sclaw.nd rfl (Or.inl rfl)) (pss_cons (ps_set (i := 2) sclaw.nd rfl (Or.inr rfl) (pe_call c_law_source.ok (hr.mono (by omega)) (by rfl) c_law_source.mg c_law_source.kp c_law_source.b .nil pass0 (pa_cons (pv 0) (pa_cons (pv 1) pa_nil))))
      (pss_cons (ps_asg (pe_tup (pa_cons (pe_lst (pa_cons pe_int (pa_cons pe_int (pa_cons pe_int (pa_cons pe_int (pa_cons pe_int (pa_cons pe_int (pa_cons pe_int pa_nil)))))))) (pa_cons (pe_lst pa_nil) pa_nil))) (pg_tup rfl (pgs_cons (pg_name (i := 3) sclaw.nd rfl (Or.inr rfl)) (pgs_cons (pg_name (i := 4) sclaw.nd rfl (Or.inl rfl)) pgs_nil))))
      (pss_cons (ps_for PassesOwn.never rfl (pi_range1 (by rfl) T.range (pa_cons (pe_call c_law_draw.ok (hr.mono (by omega)) (by rfl) c_law_draw.mg c_law_draw.kp c_law_draw.b .nil pass0 (pa_cons (pv 2) (pa_cons pe_int pa_nil))) pa_nil)) (pg_name (i := 5) sclaw.nd rfl (Or.inl rfl)) (pss_one (ps_expr (pe_bm PySem.F.plainAttrs_list PySem.F.slot_list_append PySem.F.type_list_append mt_append (pv 4) (pa_cons (pe_callTy call_tuple_of (by rfl) T.tuple bt_tuple (pa_cons (pe_lc (own := [("_law_place", 6)]) (g := gName 6) (tt := tYes) (by rfl) sclaw.nd (pi_range1 (by rfl) T.range (pa_cons pe_int pa_nil)) (show BlkOk Nlaw (defScope slaw) _ _ from blkOk_by (by decide +kernel)) (fun _ _ _ _ _ => (pg_name (i := 6) sclaw.nd rfl (Or.inl rfl))) (fun _ _ _ _ _ => pts_nil) (fun _ _ _ _ _ => (pe_call c_law_pick.ok (hr.mono (by omega)) (by rfl) c_law_pick.mg c_law_pick.kp c_law_pick.b .nil pass0 (pa_cons (pv 2) (pa_cons (pv 3) pa_nil))))) pa_nil)) pa_nil)))))
      (pss_cons (ps_setLc (i := 7) (own := [("_law_row", 8)]) (g := gName 8) (tt := tYes) rfl sclaw.nd rfl rfl (sw_true rfl rfl rfl (by decide +kernel)) (pi_list (pv 4)) (show BlkOk Nlaw (defScope slaw) _ _ from blkOk_by (by decide +kernel)) (fun _ _ _ _ _ => (pg_name (i := 8) sclaw.nd rfl (Or.inl rfl))) (fun _ _ _ _ _ => pts_nil) (fun _ _ _ _ _ => (pe_ifExp (pt_cmpR op_eq (pe_call c_law_draw.ok (hr.mono (by omega)) (by rfl) c_law_draw.mg c_law_draw.kp c_law_draw.b .nil pass0 (pa_cons (pv 2) (pa_cons pe_int pa_nil))) pe_int (nomark _)) (pe_callTy (listK (K := K) rfl) (by rfl) T.list bt_list (pa_cons (pv 8) pa_nil)) (pv 8))))
      (pss_cons (ps_set (i := 9) sclaw.nd rfl (Or.inl rfl) (pe_call cstack_of.ok (hr.mono (by omega)) (by rfl) cstack_of.mg cstack_of.kp cstack_of.b .nil pass0 (pa_cons (pe_call c_law_pick.ok (hr.mono (by omega)) (by rfl) c_law_pick.mg c_law_pick.kp c_law_pick.b .nil pass0 (pa_cons (pv 2) (pa_cons (pe_lst (pa_cons (pv 7) (pa_cons (pe_callTy call_tuple_of (by rfl) T.tuple bt_tuple (pa_cons (pv 7) pa_nil)) pa_nil))) pa_nil))) pa_nil)))
      (pss_cons (ps_if (pt_not (pt_val (pe_call c_law_same.ok (hr.mono (by omega)) (by rfl) c_law_same.mg c_law_same.kp c_law_same.b .nil pass0 (pa_cons (pv 9) (pa_cons (pe_call c_law_stack.ok (hr.mono (by omega)) (by rfl) c_law_stack.mg c_law_stack.kp c_law_stack.b .nil pass0 (pa_cons (pv 4) pa_nil)) pa_nil))))) (pss_one (ps_ret pe_bl)) pss_nil)
      (pss_cons (ps_expr (pe_bm PySem.F.plainAttrs_list PySem.F.slot_list_append PySem.F.type_list_append mt_append (pe_ix ix_tup (pv 9) pe_int (fun _ _ => rfl)) (pa_cons pe_str pa_nil)))
      (pss_cut (ps_if (pt_cmpR (op_neD hr.units) (pv 4) (pe_lst pa_nil) (nomark _)) (pss_cons (ps_set (i := 10) sclaw.nd rfl (Or.inl rfl) (pe_call c_law_draw.ok (hr.mono (by omega)) (by rfl) c_law_draw.mg c_law_draw.kp c_law_draw.b .nil pass0 (pa_cons (pv 2) (pa_cons (pe_callB call_len_seq (by rfl) T.len bt_len (pa_cons (pv 4) pa_nil)) pa_nil))))
      (pss_cons (ps_set (i := 11) sclaw.nd rfl (Or.inl rfl) (pe_op op_cat (pe_op op_cat (pe_slice sl_list (pv 4) po_none (po_some (pv 10))) (pe_lst (pa_cons (pe_callTy call_tuple_of (by rfl) T.tuple bt_tuple (pa_cons (pe_lc (own := [("_law_k", 5)]) (g := gName 5) (tt := tYes) (by rfl) sclaw.nd (pi_range1 (by rfl) T.range (pa_cons pe_int pa_nil)) (show BlkOk Nlaw (defScope slaw) _ _ from blkOk_by (by decide +kernel)) (fun _ _ _ _ _ => (pg_name (i := 5) sclaw.nd rfl (Or.inl rfl))) (fun _ _ _ _ _ => pts_nil) (fun _ _ _ _ _ => (pe_call c_law_draw.ok (hr.mono (by omega)) (by rfl) c_law_draw.mg c_law_draw.kp c_law_draw.b .nil pass0 (pa_cons (pv 2) (pa_cons pe_int pa_nil))))) pa_nil)) pa_nil))) (pe_slice sl_list (pv 4) (po_some (pe_op op_add (pv 10) pe_int)) po_none)))
      (pss_cons (ps_par (i := 12) (j := 13) (by rfl) sclaw.nd rfl rfl (by decide) rfl rfl (pa_cons (pe_call cstack_of.ok (hr.mono (by omega)) (by rfl) cstack_of.mg cstack_of.kp cstack_of.b .nil pass0 (pa_cons (pv 4) pa_nil)) (pa_cons (pe_call cstack_of.ok (hr.mono (by omega)) (by rfl) cstack_of.mg cstack_of.kp cstack_of.b .nil pass0 (pa_cons (pv 11) pa_nil)) pa_nil)) (by rfl))
      (pss_cons (ps_set (i := 14) sclaw.nd rfl (Or.inl rfl) (pe_op op_cat (pe_lc (own := [("_law_x", 15), ("_law_y", 16)]) (g := gTup K 2 (gCons (gName 15) (gCons (gName 16) (gNil)))) (tt := tYes) (by rfl) sclaw.nd (pi_zip (by rfl) T.zip (pa_cons (pe_slice sl_list (pe_ix ix_tup (pv 12) pe_int (fun _ _ => rfl)) (po_some (pe_op op_add (pv 10) pe_int)) po_none) (pa_cons (pe_slice sl_list (pe_ix ix_tup (pv 13) pe_int (fun _ _ => rfl)) (po_some (pe_op op_add (pv 10) pe_int)) po_none) pa_nil))) (show BlkOk Nlaw (defScope slaw) _ _ from blkOk_by (by decide +kernel)) (fun _ _ _ _ _ => (pg_tup rfl (pgs_cons (pg_name (i := 15) sclaw.nd rfl (Or.inl rfl)) (pgs_cons (pg_name (i := 16) sclaw.nd rfl (Or.inl rfl)) pgs_nil)))) (fun _ _ _ _ _ => pts_nil) (fun _ _ _ _ _ => (pe_op op_sub (pv 16) (pv 15)))) (pe_lst (pa_cons (pe_op op_sub (pe_ix ix_tup (pv 13) pe_int (fun _ _ => rfl)) (pe_ix ix_tup (pv 12) pe_int (fun _ _ => rfl))) pa_nil))))
      (pss_one (ps_if (PW.pt (pw_or (pt_cmpR (op_neD hr.units) (pe_slice sl_list (pe_ix ix_tup (pv 12) pe_int (fun _ _ => rfl)) po_none (po_some (pv 10))) (pe_slice sl_list (pe_ix ix_tup (pv 13) pe_int (fun _ _ => rfl)) po_none (po_some (pv 10))) (nomark _)) (pw_or1 (PW.pt (pw_and (pt_cmpR op_lt (pe_op op_add (pv 10) pe_int) (pe_callB call_len_seq (by rfl) T.len bt_len (pa_cons (pv 4) pa_nil)) (nomark _)) (pw_and1 (pt_cmpR (op_neD hr.units) (pv 14) (pe_op op_rep (pe_slice sl_list (pv 14) po_none (po_some pe_int)) (pe_callB call_len_seq (by rfl) T.len bt_len (pa_cons (pv 14) pa_nil))) (nomark _)))))))) (pss_one (ps_ret pe_bl)) pss_nil)))))) pss_nil)
      (pss_one (ps_if (PW.pt (pw_or (pt_not (pt_val (pe_call c_law_few_right.ok (hr.mono (by omega)) (by rfl) c_law_few_right.mg c_law_few_right.kp c_law_few_right.b .nil pass0 (pa_cons (pv 2) pa_nil)))) (pw_or1 (pt_not (pt_val (pe_call c_law_many_right.ok (hr.mono (by omega)) (by rfl) c_law_many_right.mg c_law_many_right.kp c_law_many_right.b .nil pass0 (pa_cons (pv 2) pa_nil))))))) (pss_one (ps_ret pe_bl)) pss_nil)))))))))))
      (pss_one (ps_ret pe_bl))), ?_⟩
  -- the turns
  refine ⟨_, rfl, a, _, rfl, .inl ha, _, _, rfl, _, _, rfl, rfl, ?_⟩
  have hX : ∃ X : Int, (2 : Int) + (if (2 : Int) < (((ns.map V.int).length : Nat) : Int) then (2 : Int) else (((ns.map V.int).length : Nat) : Int)) = X ∧ 0 ≤ X ∧ X ≤ 4 := by
    refine ⟨_, rfl, ?_⟩
    by_cases h : (2 : Int) < (((ns.map V.int).length : Nat) : Int)
    · rw [if_pos h]; omega
    · rw [if_neg h]; omega
  obtain ⟨X, eX, X0, X4⟩ := hX
  refine ⟨X, congrArg (fun z => [V.int z]) eX, by omega, by omega, for_range (lo := 0) (n := X.toNat)
    (fun i σ' H' => ∃ v1 v2 v3 v4 v5 v6 v7 v8 v9 v10 v11 v12 v13 v14 v15 v16 : Option V, σ' = [some (.ref a), v1, v2, v3, v4, v5, v6, v7, v8, v9, v10, v11, v12, v13, v14, v15, v16] ∧ LamX.TabS H' TP TQ0 ∧ SqL K H' a (ns.map V.int))
    ⟨none, none, none, none, none, none, none, none, none, none, none, none, none, none, none, none, rfl, hT, ha⟩ ?_ (fun σ' H' _ => q H')⟩
  rintro i σ' H0 hi ⟨v1, v2, v3, v4, v5, v6, v7, v8, v9, v10, v11, v12, v13, v14, v15, v16, rfl, hT0, ha0⟩
  have e0 : (0 : Int) + (i : Int) = (i : Int) := Int.zero_add _
  rw [e0]
  refine ⟨_, rfl, _, rfl, a, ns, (i : Int), rfl, ha0, by omega, by omega, fun H1 d s1 nd D1 => ?_⟩
  have hA : ∀ H', Kp TP TQ0 d H1 H' → SqL K H' a (ns.map V.int) := fun H' k => by
    rcases ha0 with (z | ⟨o, z⟩) | z
    · exact k.sqL (SqL.of (s1 _ _ z)) (ne_of_none z nd)
    · exact k.sqL (.inl (.inr ⟨o, s1 _ _ z⟩)) (ne_of_none z nd)
    · exact .inr z
  have hT1 := hT0.ext s1
  clear hT0 ha0 s1 nd
  -- menu, rows
  dsimp only [tSeq]
  refine ⟨(by show 7 ≤ sizeLine; decide), fun m nm => ?_⟩
  generalize hH2 : upd H1 m _ = H2
  obtain ⟨s2, hm2⟩ := nw hH2 nm
  refine ⟨Nat.zero_le _, fun R nR => ?_⟩
  generalize hH3 : upd H2 R _ = H3
  obtain ⟨s3, hR3⟩ := nw hH3 nR
  refine ⟨(by show 2 ≤ sizeLine; decide), fun t nt => ?_⟩
  generalize hH4 : upd H3 t _ = H4
  obtain ⟨s4, ht4⟩ := nw hH4 nt
  refine ⟨t, _, rfl, SqT.of ht4, rfl, _, _, rfl, _, _, rfl, rfl, ?_⟩
  have s14 : Same H1 H4 := s2.trans (s3.trans s4)
  have hm4 := (s3.trans s4) _ _ hm2
  have hR4 := s4 _ _ hR3
  have nR1 : H1 R = none := s2.free nR
  have Rd : R ≠ d := D1.ne nR1
  have md : m ≠ d := D1.ne nm
  have hmR : m ≠ R := ne_of_none hm2 nR
  have D4 : Dr H4 d 0 := D1.same s14
  -- the rows
  refine ⟨_, rfl, d, 41, 0, rfl, D4, by decide, by decide, by decide, fun H5 r r0 r1 D5 k5 => ?_⟩
  have k15 : Kp TP TQ0 d H1 H5 := (Kp.of s14).trans k5
  refine ⟨_, rfl, by omega, by omega, for_range (lo := 0) (n := r.toNat)
    (fun i' σ' H' => ∃ v5 : Option V, σ' = [some (.ref a), some (.int (i : Nat)), some (.ref d), some (.ref m), some (.ref R), v5, v6, v7, v8, v9, v10, v11, v12, v13, v14, v15, v16] ∧ ∃ ps rs, RowsL TP TQ0 H1 d m R [.int 0, .int 0, .int 1, .int 4, .int 9, .int 20, .int 10000] i' H' ps rs)
    ⟨v5, rfl, [], [], k5.lst hR4 Rd, trivial, rfl, (fun x hx => nomatch hx), k5.lst hm4 md, D5, k15⟩ ?_ ?_⟩
  · rintro j σ' H6 hj ⟨v5, rfl, ps, rs, B⟩
    refine ⟨_, rfl, .inl ⟨rfl, _, SqL.of B.hR⟩, ?_⟩
    unfold tCB tCons
    refine ⟨_, rfl, by decide, by decide, fun D nD => lc_range (lo := 0) (n := 3)
      (fun k H' => ∃ xs : List Int, H' D = some (.lst (xs.map V.int)) ∧ xs.length = k ∧ Nn xs ∧ Dr H' d (1 + 3 * (j : Int) + k) ∧ Kp TP TQ0 d H6 H') ⟨[], upd_same, rfl, (fun x hx => nomatch hx), ?_, Kp.of (same_new nD _)⟩ ?_ ?_⟩
    · exact (B.dr.upd (B.dr.ne nD)).mono (by omega)
    · rintro k H7 hk ⟨xs, hx7, hxl, hxn, D7, k7⟩
      refine ⟨rfl, yes_ ⟨_, rfl, _, rfl, d, m, _, _, rfl, k7.lst B.hm md, md, List.cons_ne_nil _ _, by show 7 ≤ 1000; decide, D7, by omega, fun H8 x hx D8 k8 => ?_⟩⟩
      have hx : ∃ y : Int, x = .int y ∧ 0 ≤ y := by
        simp only [List.mem_cons, List.not_mem_nil, or_false] at hx
        rcases hx with e | e | e | e | e | e | e <;> exact ⟨_, e, by decide⟩
      obtain ⟨y, rfl, hy0⟩ := hx
      have nDd : D ≠ d := B.dr.ne nD
      have hx8 := k8.lst hx7 nDd
      refine ⟨_, hx8, ?_, xs ++ [y], ?_, ?_, ?_, ?_, (k7.trans k8).mut nD hx8⟩
      · rw [List.length_map]
        exact sz_lt (by omega)
      · rw [upd_same, List.map_append]
        rfl
      · rw [List.length_append, hxl]
        rfl
      · intro z hz
        rcases List.mem_append.mp hz with hz | hz
        · exact hxn z hz
        · rw [List.mem_singleton.mp hz]
          exact hy0
      · exact (D8.upd nDd).mono (by omega)
    rintro H7 ⟨xs, hx7, hxl, hxn, D7, k7⟩
    obtain ⟨x1, x2, x3, rfl⟩ : ∃ x1 x2 x3, xs = [x1, x2, x3] := by
      match xs, hxl with
      | [x1, x2, x3], _ => exact ⟨x1, x2, x3, rfl⟩
    refine ⟨D, _, rfl, .inl ⟨SqL.of hx7, fun tp ntp => ?_⟩⟩
    generalize hH8 : upd H7 tp _ = H8
    obtain ⟨s8, htp⟩ := nw hH8 ntp
    have k68 : Kp TP TQ0 d H6 H8 := k7.trans (Kp.of s8)
    have hR8 := k68.lst B.hR Rd
    have ntpR : tp ≠ R := (ne_of_none (k7.lst B.hR Rd) ntp).symm
    have ntpd : tp ≠ d := D7.ne ntp
    refine ⟨R, _, _, rfl, rfl, hR8, ?_, ?_⟩
    · rw [List.length_map, B.len]
      exact sz_lt (by omega)
    refine ⟨some (.int j), ?_, ps ++ [tp], rs ++ [(x1, x2, x3)], ?_, ?_, ?_, ?_, ?_, ?_, ?_⟩
    · rw [Int.zero_add]
      rfl
    · rw [upd_same, List.map_append]
      rfl
    · refine (B.rt.kp k68 |>.snoc (x := (x1, x2, x3)) ntpd htp).mono fun p xs _ e => ?_
      rw [upd_ne (ne_of e hR8 (by intro z; cases z))]
      exact e
    · rw [List.length_append, B.len]
      rfl
    · intro z hz
      rcases List.mem_append.mp hz with hz | hz
      · exact B.nn z hz
      · rw [List.mem_singleton.mp hz]
        exact ⟨hxn x1 (by simp), hxn x2 (by simp), hxn x3 (by simp)⟩
    · rw [upd_ne hmR]
      exact k68.lst B.hm md
    · exact ((D7.same s8).upd Rd).mono (by omega)
    · exact (B.kp.trans k68).mut nR1 hR8
  rintro σ' H6 ⟨v5, rfl, ps, rs, B⟩
  have hl40 : rs.length ≤ 40 := by rw [← B.rt.len, B.len]; omega
  have D6 : Dr H6 d 200 := B.dr.mono (by omega)
  obtain ⟨hR6, rt6, hpl, hnn, _, _, k16⟩ := B
  have hp40 : ps.length ≤ 40 := by rw [rt6.len]; exact hl40
  clear k15 k5 D5 hm4 hR4 D4 s14 hpl r0 r1 ht4 hR3 hm2 hH2 hH3 hH4 s2 s3 s4 nt nR
  -- handed
  refine ⟨_, rfl, R, rfl, ⟨_, SqL.of hR6⟩, fun D nD => lc_it (walk_list (K := K) (a := R) (xs := ps.map V.ref))
    (fun j H' => ∃ qs : List Addr, H' D = some (.lst (qs.map V.ref)) ∧ qs.length = j ∧ (∀ (k : Nat) (p : Addr) (x : Row), qs[k]? = some p → rs[k]? = some x → p ≠ d ∧ p ≠ D ∧ IsSeq H' p (rv x)) ∧ Dr H' d (200 + j) ∧ Kp TP TQ0 d H6 H')
    ⟨[], upd_same, rfl, (fun k p x e _ => by simp at e), ?_, Kp.of (same_new nD _)⟩ (fun j H' _ ⟨_, _, _, _, _, z⟩ => SqL.of (z.lst hR6 Rd)) ?_ ?_⟩
  · exact (D6.upd (D6.ne nD)).mono (by omega)
  · rintro j x H7o H7 hj ⟨qs, hD7, hql, hq, D7, k7⟩ ⟨rfl, hx⟩
    obtain ⟨p, hpj, rfl⟩ := ref_at hx
    have hj1 : j < rs.length := by rw [← rt6.len]; exact at_len hpj
    have hyj : rs[j]? = some rs[j] := List.getElem?_eq_getElem hj1
    generalize rs[j] = y at hyj
    have Dd : D ≠ d := D6.ne nD
    have fin : ∀ (H9 : Hp) (p' : Addr), Kp TP TQ0 d H7 H9 → p' ≠ d → p' ≠ D → IsSeq H9 p' (rv y) → Dr H9 d (200 + j + 1) → ∃ acc, H9 D = some (.lst acc) ∧ acc.length < sizeLine ∧ ∃ qs : List Addr, upd H9 D (.lst (acc ++ [.ref p'])) D = some (.lst (qs.map V.ref)) ∧ qs.length = j + 1 ∧
        (∀ (k : Nat) (p : Addr) (x : Row), qs[k]? = some p → rs[k]? = some x → p ≠ d ∧ p ≠ D ∧ IsSeq (upd H9 D (.lst (acc ++ [.ref p']))) p (rv x)) ∧ Dr (upd H9 D (.lst (acc ++ [.ref p']))) d (200 + (j + 1 : Nat)) ∧ Kp TP TQ0 d H6 (upd H9 D (.lst (acc ++ [.ref p']))) := by
      intro H9 p' k9 n1 n2 hs D9
      have hD9 := k9.lst hD7 Dd
      refine ⟨_, hD9, ?_, qs ++ [p'], ?_, ?_, ?_, ?_, (k7.trans k9).mut nD hD9⟩
      · rw [List.length_map, hql]
        exact sz_lt (by omega)
      · rw [upd_same, List.map_append]
        rfl
      · rw [List.length_append, hql]
        rfl
      · intro k p2 x e1 e2
        have keep : ∀ {p2 : Addr} {xs : List V}, p2 ≠ D → IsSeq H9 p2 xs → IsSeq (upd H9 D (.lst (qs.map V.ref ++ [.ref p']))) p2 xs := fun n h => h.imp (fun z => by rw [upd_ne n]; exact z) fun z => by rw [upd_ne n]; exact z
        by_cases hk : k < qs.length
        · rw [List.getElem?_append_left hk] at e1
          obtain ⟨a1, a2, a3⟩ := hq k p2 x e1 e2
          exact ⟨a1, a2, keep a2 (k9.seq a3 a1)⟩
        · have hk2 : k = qs.length := by
            have := at_len e1
            rw [List.length_append] at this
            have t1 : [p'].length = 1 := rfl
            omega
          subst hk2
          rw [List.getElem?_append_right (Nat.le_refl _), Nat.sub_self] at e1
          have e3 : p' = p2 := Option.some.inj e1
          subst e3
          rw [hql, hyj] at e2
          cases e2
          exact ⟨n1, n2, keep n2 hs⟩
      · exact (D9.upd Dd).mono (by omega)
    refine ⟨rfl, yes_ ⟨_, rfl, d, 2, _, rfl, D7, by decide, by decide, by omega, fun H8 r r0 r1 D8 k8 => ⟨rfl, _, rfl, ite2 (fun z => ?_) (fun z => ?_)⟩⟩⟩
    · obtain ⟨npd, hp8⟩ := (rt6.kp (k7.trans k8)).at hpj hyj
      refine ⟨_, rfl, p, _, rfl, .inr (SqT.of hp8), fun l nl => ?_⟩
      have nld : l ≠ d := D8.ne nl
      exact fin _ l (k8.trans (Kp.of (same_new nl _))) nld (ne_of_none (k8.lst hD7 Dd) nl).symm (.inl upd_same) (D8.same (same_new nl _))
    · obtain ⟨npd, hp8⟩ := (rt6.kp (k7.trans k8)).at hpj hyj
      exact ⟨_, rfl, fin _ p k8 npd (ne_of hp8 (k8.lst hD7 Dd) (by intro z; cases z)) (.inr hp8) D8⟩
  rintro H7 ⟨qs, hh7, hql, hq7, D7, k7⟩
  have hq7 : ∀ (k : Nat) (p : Addr) (x : Row), qs[k]? = some p → rs[k]? = some x → p ≠ d ∧ IsSeq H7 p (rv x) := fun k p x e1 e2 => let ⟨a1, _, a3⟩ := hq7 k p x e1 e2; ⟨a1, a3⟩
  have Dd : D ≠ d := D6.ne nD
  have hqr : qs.length = rs.length := by rw [hql, List.length_map, rt6.len]
  have D7 : Dr H7 d 300 := D7.mono (by rw [List.length_map]; omega)
  have k17 : Kp TP TQ0 d H1 H7 := k16.trans k7
  have hR7 := k7.lst hR6 Rd
  have rt7 := rt6.kp k7
  clear hql k7 hR6 rt6 D6 nD k16
  generalize D = hd at hh7 Dd
  dsimp only [tSeq]
  -- found
  refine ⟨_, rfl, _, rfl, _, rfl, hd, _, rfl, .inl ⟨SqL.of hh7, fun t nt => ?_⟩⟩
  generalize hH8 : upd H7 t _ = H8
  obtain ⟨s8, ht8⟩ := nw hH8 nt
  refine ⟨(by show 2 ≤ sizeLine; decide), fun l nl => ?_⟩
  generalize hH9 : upd H8 l _ = H9
  obtain ⟨s9, hl9⟩ := nw hH9 nl
  have s79 := s8.trans s9
  refine ⟨d, l, _, 300, rfl, hl9, D7.ne (s8.free nl), List.cons_ne_nil _ _, by show 2 ≤ 1000; decide, D7.same s79, by decide, fun Ha x hx Da ka => ?_⟩
  have k7a : Kp TP TQ0 d H7 Ha := (Kp.of s79).trans ka
  have hxs : ∃ b, x = .ref b ∧ IsSeq Ha b (qs.map V.ref) := by
    rcases List.mem_cons.mp hx with e | hx
    · exact ⟨hd, e, .inl (k7a.lst hh7 Dd)⟩
    · rcases List.mem_cons.mp hx with e | hx
      · exact ⟨t, e, .inr (ka.tup (s9 _ _ ht8) (D7.ne nt))⟩
      · cases hx
  obtain ⟨b, rfl, hb⟩ := hxs
  have hra : RowsAt Ha b rs := ⟨qs, hb, hqr, fun k p x e1 e2 => let ⟨a1, a2⟩ := hq7 k p x e1 e2; k7a.seq a2 a1⟩
  have hRa := k7a.lst hR7 Rd
  have rta := rt7.kp k7a
  have k1a := k17.trans k7a
  refine ⟨b, rs, rfl, hra, by omega, hnn, fun Hb p tt sb np ntt hp htt => ?_⟩
  have rtb := rta.same sb
  have hRb := sb _ _ hRa
  -- the law's own
  refine ⟨_, rfl, _, rfl, R, rs, ps, rfl, hRb, rta.len, fun k p x e1 e2 => (rtb.at e1 e2).2, by omega, hnn, fun Hc p2 t2 sc np2 nt2 hp2 ht2 => ?_⟩
  refine ⟨_, _, rfl, .inr (.inr ⟨tt, t2, _, _, rfl, rfl, .inr ⟨sc _ _ htt, ht2⟩, rfl, by show 2 ≤ 100000; decide, fun k x y e1 e2 => ?_⟩), fun Hd sd' => ⟨true, rfl, iteF ?_⟩⟩
  · match k, e1, e2 with
    | 0, e1, e2 =>
      cases e1
      cases e2
      exact SameD.ints (n := 0) (sc _ _ hp) hp2 (by rw [stk_len]; omega)
    | 1, e1, e2 =>
      cases e1
      cases e2
      exact SameD.int _
  -- late
  have sbd := sc.trans sd'
  have hpd := sbd _ _ hp
  refine ⟨_, rfl, tt, _, 0, .ref p, rfl, rfl, SqT.of (sbd _ _ htt), atI_nat (j := 0) rfl, .inl ⟨rfl, _, SqL.of hpd⟩, p, _, _, rfl, rfl, hpd, ?_, ?_⟩
  · rw [List.length_map, stk_len]
    exact sz_lt (by omega)
  generalize hHe : upd Hd p _ = He
  have sad : Same Ha Hd := sb.trans sbd
  have ke : Kp TP TQ0 d H1 He := by
    rw [← hHe]
    exact (k1a.trans (Kp.of sad)).mut (k1a.free np) hpd
  have hRe : He R = some (.lst (ps.map V.ref)) := by
    rw [← hHe, upd_ne (ne_of_none hRa np)]
    exact sad _ _ hRa
  have rte : RT He d ps rs := (rta.same sad).mono fun p' xs _ e => by
    rw [← hHe, upd_ne (ne_of e hpd (by intro z; cases z))]
    exact e
  have De : Dr He d 400 := by
    rw [← hHe]
    exact ((Da.same sad).upd (Da.ne np)).mono (by decide)
  clear hHe rta rtb hRa hRb k7a k1a ka hra hb hpd hp htt hp2 ht2
  refine ⟨fun σ' H' => ∃ v10 v11 v12 v13 v14 v15 v16 : Option V, σ' = [some (.ref a), some (.int (i : Nat)), some (.ref d), some (.ref m), some (.ref R), v5, v6, some (.ref hd), v8, some (.ref tt), v10, v11, v12, v13, v14, v15, v16] ∧ Dr H' d 1000 ∧ Kp TP TQ0 d H1 H', ?_, ?_⟩
  · refine ⟨_, rfl, Nat.zero_le _, fun e ne => ?_⟩
    generalize hHf : upd He e _ = Hf
    obtain ⟨sf, hef⟩ := nw hHf ne
    have rtf := rte.same sf
    have hRf := sf _ _ hRe
    have Df := De.same sf
    have kf := ke.trans (Kp.of sf)
    refine ne_rows rtf hRf hef ⟨_, rfl, ite2 (fun z => ?_) (fun z => ⟨_, _, _, _, _, _, _, rfl, Df.mono (by decide), kf⟩)⟩
    have hne : rs ≠ [] := fun y => by
      rw [decide_eq_true y] at z
      cases z
    have hpos : 0 < rs.length := List.length_pos_iff.mpr hne
    have hpos2 : 0 < ps.length := by rw [rtf.len]; exact hpos
    clear z
    refine ⟨_, rfl, _, rfl, R, _, rfl, .inl (SqL.of hRf), d, _, _, rfl, Df, ?_, ?_, by decide, fun Hg at_ a0 a1 Dg kg => ?_⟩
    · rw [List.length_map]; omega
    · rw [List.length_map]; omega
    rw [List.length_map] at a1
    obtain ⟨k, rfl⟩ : ∃ k : Nat, at_ = (k : Int) := ⟨at_.toNat, by omega⟩
    have hk : k < rs.length := by rw [← rtf.len]; omega
    obtain ⟨pre, x, suf, hrs, hpre⟩ : ∃ pre x suf, rs = pre ++ x :: suf ∧ pre.length = k := ⟨rs.take k, rs[k], rs.drop (k + 1), by rw [← List.drop_eq_getElem_cons hk, List.take_append_drop], by rw [List.length_take]; omega⟩
    have rtg := rtf.kp kg
    have hRg := kg.lst hRf Rd
    have k1g := kf.trans kg
    -- bent
    refine ⟨_, rfl, _, rfl, _, rfl, R, _, rfl, SqL.of hRg, fun q1 n1 => ?_⟩
    rw [cut_to, ← List.map_take]
    generalize hHh : upd Hg q1 _ = Hh
    obtain ⟨sh, hq1⟩ := nw hHh n1
    have q1d : q1 ≠ d := Dg.ne n1
    unfold tLst tCons tCB
    refine ⟨_, rfl, by decide, by decide, fun D nD => lc_range (lo := 0) (n := 3)
      (fun j H' => ∃ xs : List Int, H' D = some (.lst (xs.map V.int)) ∧ xs.length = j ∧ Nn xs ∧ Dr H' d (401 + j) ∧ Kp TP TQ0 d Hh H') ⟨[], upd_same, rfl, (fun x hx => nomatch hx), ?_, Kp.of (same_new nD _)⟩ ?_ ?_⟩
    · exact ((Dg.same sh).upd ((Dg.same sh).ne nD)).mono (by decide)
    · rintro j H7 hj ⟨xs, hx7, hxl, hxn, D7, k7⟩
      refine ⟨rfl, yes_ ⟨_, rfl, d, 12, _, rfl, D7, by decide, by decide, by omega, fun H8 y hy0 hy1 D8 k8 => ?_⟩⟩
      have nDd : D ≠ d := (Dg.same sh).ne nD
      have hx8 := k8.lst hx7 nDd
      refine ⟨_, hx8, ?_, xs ++ [y], ?_, ?_, ?_, ?_, (k7.trans k8).mut nD hx8⟩
      · rw [List.length_map]
        exact sz_lt (by omega)
      · rw [upd_same, List.map_append]
        rfl
      · rw [List.length_append, hxl]
        rfl
      · intro z hz
        rcases List.mem_append.mp hz with hz | hz
        · exact hxn z hz
        · rw [List.mem_singleton.mp hz]
          exact hy0
      · exact (D8.upd nDd).mono (by omega)
    rintro Hi ⟨xs, hxi, hxl, hxn, Di, ki⟩
    obtain ⟨x1, x2, x3, rfl⟩ : ∃ x1 x2 x3, xs = [x1, x2, x3] := by
      match xs, hxl with
      | [x1, x2, x3], _ => exact ⟨x1, x2, x3, rfl⟩
    refine ⟨D, _, rfl, .inl ⟨SqL.of hxi, fun tp ntp => ?_⟩⟩
    generalize hHj : upd Hi tp _ = Hj
    obtain ⟨sj, htp⟩ := nw hHj ntp
    have ntpd : tp ≠ d := Di.ne ntp
    refine ⟨(by show 1 ≤ sizeLine; decide), fun l3 nl3 => ?_⟩
    generalize hHk : upd Hj l3 _ = Hk
    obtain ⟨sk, hl3⟩ := nw hHk nl3
    have hq1k : Hk q1 = some (.lst ((ps.take k).map V.ref)) := (sj.trans sk) _ _ (ki.lst hq1 q1d)
    refine ⟨q1, l3, _, _, rfl, rfl, hq1k, hl3, sz_le (by rw [List.length_map, List.length_take]; show _ + 1 ≤ _; omega), fun c nc => ?_⟩
    generalize hHl : upd Hk c _ = Hl
    obtain ⟨sl, hcl⟩ := nw hHl nc
    have k1l : Kp TP TQ0 d Hg Hl := (Kp.of sh).trans (ki.trans (Kp.of (sj.trans (sk.trans sl))))
    have hRl := k1l.lst hRg Rd
    refine ⟨_, rfl, _, rfl, _, _, rfl, rfl, _, rfl, R, _, rfl, SqL.of hRl, fun q2 n2 => ?_⟩
    rw [show ((k : Int) + 1) = ((k + 1 : Nat) : Int) by omega, cut_from, ← List.map_drop]
    generalize hHm : upd Hl q2 _ = Hm
    obtain ⟨sm, hq2⟩ := nw hHm n2
    refine ⟨c, q2, _, _, rfl, rfl, sm _ _ hcl, hq2, sz_le ?_, fun bt nbt => ?_⟩
    · rw [List.length_append, List.length_map, List.length_map, List.length_take, List.length_drop]
      show _ + 1 + _ ≤ _
      omega
    rw [show (ps.take k).map V.ref ++ [V.ref tp] ++ (ps.drop (k + 1)).map V.ref = (ps.take k ++ [tp] ++ ps.drop (k + 1)).map V.ref by rw [List.map_append, List.map_append]; rfl]
    generalize hHn : upd Hm bt _ = Hn
    obtain ⟨sn, hbt⟩ := nw hHn nbt
    have k1n : Kp TP TQ0 d Hg Hn := k1l.trans (Kp.of (sm.trans sn))
    have hRn := k1n.lst hRg Rd
    have rtn := rtg.kp k1n
    have Dn : Dr Hn d 500 := (Di.same (sj.trans (sk.trans (sl.trans (sm.trans sn))))).mono (by decide)
    have rtb : RT Hn d (ps.take k ++ [tp] ++ ps.drop (k + 1)) (rs.take k ++ [(x1, x2, x3)] ++ rs.drop (k + 1)) :=
      ((rtn.take k).snoc (x := (x1, x2, x3)) ntpd ((sk.trans (sl.trans (sm.trans sn))) _ _ htp)).app (rtn.drop (k + 1))
    have ebs : rs.take k ++ [(x1, x2, x3)] ++ rs.drop (k + 1) = pre ++ (x1, x2, x3) :: suf := by
      rw [hrs, ← hpre, List.take_left, show pre.length + 1 = pre.length + [x].length from rfl, ← List.drop_drop, List.drop_left]
      simp
    rw [ebs] at rtb
    have nnb : RowsNn (pre ++ (x1, x2, x3) :: suf) := fun z hz => by
      rcases List.mem_append.mp hz with hz | hz
      · exact hnn z (by rw [hrs]; exact List.mem_append_left _ hz)
      · rcases List.mem_cons.mp hz with e | hz
        · rw [e]
          exact ⟨hxn x1 (by simp), hxn x2 (by simp), hxn x3 (by simp)⟩
        · exact hnn z (by rw [hrs]; exact List.mem_append_right _ (List.mem_cons_of_mem _ hz))
    have lenb : (pre ++ (x1, x2, x3) :: suf).length = rs.length := by
      rw [hrs, List.length_append, List.length_append, List.length_cons, List.length_cons]
    dsimp only [tSeq]
    -- the two stacks
    refine ⟨_, rfl, R, rs, rfl, rtn.rows hRn, by omega, hnn, fun Ho p1 t1 so np1 nt1 hp1 ht1 => ?_⟩
    refine ⟨_, rfl, bt, _, rfl, (rtb.rows hbt).same so, by omega, nnb, fun Hp p2 t2 sp np2 nt2 hp2 ht2 => ⟨_, _, rfl, ?_⟩⟩
    have hp1p := sp _ _ hp1
    have ht1p := sp _ _ ht1
    have snp := so.trans sp
    have hRp := snp _ _ hRn
    dsimp only [tSeq]
    -- moved
    refine ⟨_, rfl, t1, _, 0, .ref p1, rfl, rfl, SqT.of ht1p, atI_nat (j := 0) rfl, _, rfl, _, _, rfl, rfl, _, rfl, p1, _, rfl, SqL.of hp1p, fun c1 nc1 => ?_⟩
    rw [show ((k : Int) + 1) = ((k + 1 : Nat) : Int) by omega, cut_from, ← List.map_drop]
    generalize hG1 : upd Hp c1 _ = G1
    obtain ⟨g1, hc1⟩ := nw hG1 nc1
    refine ⟨_, rfl, t2, _, 0, .ref p2, rfl, rfl, SqT.of (g1 _ _ ht2), atI_nat (j := 0) rfl, _, rfl, _, _, rfl, rfl, _, rfl, p2, _, rfl, SqL.of (g1 _ _ hp2), fun c2 nc2 => ?_⟩
    rw [show ((k : Int) + 1) = ((k + 1 : Nat) : Int) by omega, cut_from, ← List.map_drop]
    generalize hG2 : upd G1 c2 _ = G2
    obtain ⟨g2, hc2⟩ := nw hG2 nc2
    have hc12 := g2 _ _ hc1
    refine ⟨c1, c2, _, _, rfl, SqL.of hc12, SqL.of hc2, fun D2 nD2 => lc_zip_int nD2 (fun x y => y - x) hc12 hc2 (fun _ _ => rfl) (fun x y H6 R r => ⟨_, rfl, _, rfl, y, x, rfl, rfl, r⟩) ?_ fun G3 g3 hD3 => ?_⟩
    · rw [List.length_drop, stk_len]; omega
    have gp3 := g1.trans (g2.trans g3)
    refine ⟨_, rfl, t2, _, 1, _, rfl, rfl, SqT.of (gp3 _ _ ht2), atI_nat (j := 1) rfl, _, rfl, t1, _, 1, _, rfl, rfl, SqT.of (gp3 _ _ ht1p), atI_nat (j := 1) rfl, _, _, rfl, rfl, ?_⟩
    refine ⟨(by show 1 ≤ sizeLine; decide), fun l5 nl5 => ?_⟩
    generalize hG4 : upd G3 l5 _ = G4
    obtain ⟨g4, hl5⟩ := nw hG4 nl5
    have hzl : (List.zipWith (fun x y => y - x) ((stk 0 0 rs).drop (k + 1)) ((stk 0 0 (pre ++ (x1, x2, x3) :: suf)).drop (k + 1))).length ≤ 40 := by
      rw [List.length_zipWith, List.length_drop, stk_len]; omega
    refine ⟨D2, l5, _, _, rfl, rfl, g4 _ _ hD3, hl5, sz_le (by rw [List.length_map]; show _ + 1 ≤ _; omega), fun mv nmv => ?_⟩
    rw [show (List.zipWith (fun x y => y - x) ((stk 0 0 rs).drop (k + 1)) ((stk 0 0 (pre ++ (x1, x2, x3) :: suf)).drop (k + 1))).map V.int ++ [V.int (stkE 0 0 (pre ++ (x1, x2, x3) :: suf) - stkE 0 0 rs)]
      = (List.zipWith (fun x y => y - x) ((stk 0 0 rs).drop (k + 1)) ((stk 0 0 (pre ++ (x1, x2, x3) :: suf)).drop (k + 1)) ++ [stkE 0 0 (pre ++ (x1, x2, x3) :: suf) - stkE 0 0 rs]).map V.int by rw [List.map_append]; rfl]
    generalize hG5 : upd G4 mv _ = G5
    obtain ⟨g5, hmv⟩ := nw hG5 nmv
    have gp5 := gp3.trans (g4.trans g5)
    have hmvE : ∃ M : List Int, G5 mv = some (.lst (M.map V.int)) ∧ M.length ≤ 50 ∧ (suf ≠ [] → ∃ dd, M = List.replicate (suf.length + 1) dd) := by
      refine ⟨_, hmv, ?_, fun hs => ?_⟩
      · rw [List.length_append]
        show _ + 1 ≤ _
        omega
      · obtain ⟨dd, e⟩ := moved_all (x := x) (x' := (x1, x2, x3)) (pre := pre) hs
        rw [hpre, ← hrs] at e
        exact ⟨dd, e⟩
    obtain ⟨M, hM, hMl, hMs⟩ := hmvE
    clear hmv hzl hD3
    -- what stands before it, what follows it
    refine ⟨_, rfl, t1, _, 0, .ref p1, rfl, rfl, SqT.of (gp5 _ _ ht1p), atI_nat (j := 0) rfl, _, rfl, _, rfl, p1, _, rfl, SqL.of (gp5 _ _ hp1p), fun u1 nu1 => ?_⟩
    rw [cut_to, ← List.map_take]
    generalize hG6 : upd G5 u1 _ = G6
    obtain ⟨g6, hu1⟩ := nw hG6 nu1
    have gp6 := gp5.trans g6
    refine ⟨_, rfl, t2, _, 0, .ref p2, rfl, rfl, SqT.of (gp6 _ _ ht2), atI_nat (j := 0) rfl, _, rfl, _, rfl, p2, _, rfl, SqL.of (gp6 _ _ hp2), fun u2 nu2 => ?_⟩
    rw [cut_to, ← List.map_take]
    generalize hG7 : upd G6 u2 _ = G7
    obtain ⟨g7, hu2⟩ := nw hG7 nu2
    have gp7 := gp6.trans g7
    have same_pre : (stk 0 0 rs).take k = (stk 0 0 (pre ++ (x1, x2, x3) :: suf)).take k := by rw [hrs, ← hpre, stk_pre, stk_pre]
    have D7 : ∀ G, Same Hp G → Dr G d 1000 ∧ Kp TP TQ0 d H1 G := fun G g => ⟨(Dn.same (snp.trans g)).mono (by decide), k1g.trans (k1n.trans (Kp.of (snp.trans g)))⟩
    refine ne_ints (SqL.of (g7 _ _ hu1)) (SqL.of hu2) ⟨false, by rw [same_pre, decide_eq_true rfl]; rfl, iteF ?_⟩
    refine ⟨_, rfl, _, _, rfl, rfl, _, rfl, R, _, rfl, .inl (SqL.of (gp7 _ _ hRp)), _, _, rfl, rfl, _, rfl, ite2 (fun z => ?_) (fun z => iteF ?_)⟩
    · have z1 : (k : Int) + 1 < (((ps.map V.ref).length : Nat) : Int) := of_decide_eq_true z
      rw [List.length_map, rtn.len, hrs, List.length_append, List.length_cons, hpre] at z1
      have hs : suf ≠ [] := fun e => by
        rw [e] at z1
        have : ([] : List Row).length = 0 := rfl
        omega
      obtain ⟨dd, eM⟩ := hMs hs
      have hM7 := (g6.trans g7) _ _ hM
      refine ⟨_, rfl, _, rfl, _, rfl, mv, _, rfl, SqL.of hM7, fun w1 nw1 => ?_⟩
      rw [show cutV (M.map V.int) none (some 1) = (M.map V.int).take 1 from cut_to _ 1]
      generalize hG8 : upd G7 w1 _ = G8
      obtain ⟨g8, hw1⟩ := nw hG8 nw1
      refine ⟨_, rfl, mv, _, rfl, .inl (SqL.of (g8 _ _ hM7)), w1, _, _, rfl, rfl, hw1, by omega, ?_, ?_, fun w2 nw2 => ?_⟩
      · rw [List.length_map]; omega
      · rw [List.length_take, List.length_map]
        have t1 : min 1 M.length * M.length ≤ 1 * M.length := Nat.mul_le_mul_right _ (by omega)
        exact sz_le (by show min 1 M.length * ((M.length : Nat) : Int).toNat ≤ _; rw [Int.toNat_natCast]; omega)
      have eR : (List.replicate (((M.map V.int).length : Nat) : Int).toNat ((M.map V.int).take 1)).flatten = M.map V.int := by
        rw [Int.toNat_natCast, List.length_map, eM, List.length_replicate, rep_rep]
      rw [eR]
      generalize hG9 : upd G8 w2 _ = G9
      obtain ⟨g9, hw2⟩ := nw hG9 nw2
      have gp9 := gp7.trans (g8.trans g9)
      refine ne_ints (SqL.of ((g8.trans g9) _ _ hM7)) (SqL.of hw2) ⟨false, by rw [decide_eq_true rfl]; rfl, iteF ?_⟩
      exact ⟨_, _, _, _, _, _, _, rfl, D7 _ gp9⟩
    · exact ⟨_, _, _, _, _, _, _, rfl, D7 _ gp7⟩
  · rintro σ' H' ⟨v10, v11, v12, v13, v14, v15, v16, rfl, D', k'⟩
    refine ⟨_, rfl, d, 1000, rfl, D', by decide, k'.tab hT1, fun H2 D2 k2 => ⟨true, rfl, iteF ?_⟩⟩
    refine ⟨_, rfl, d, _, rfl, D2, by decide, (k'.trans k2).tab hT1, fun H3 D3 k3 => ⟨true, rfl, iteF ?_⟩⟩
    exact ⟨_, _, _, _, _, _, _, _, _, _, _, _, _, _, _, _, rfl, (k'.trans (k2.trans k3)).tab hT1, hA _ (k'.trans (k2.trans k3))⟩
end
end K41

set_option maxHeartbeats 4000000
/-! K41End: the head's facts, the join. -/
namespace K41
open PySem PySem.Spec PyProof.Rows L2
def dd (x : Str) (i : Nat) : He.DefD := ⟨(x, none), x, x, defArgs (top i), defBody (top i), defScope (top i), [], []⟩
def fn : List He.DefD := [dd "is_list" 1, dd "is_whole" 2, dd "is_natural" 3, dd "is_block_row" 10, dd "stacked" 11, dd "stack_of" 12, dd "checked_margins" 13, dd "least_stack" 14, dd "greatest_stack" 15, dd "is_least_order" 16, dd "greatest_order" 17, dd "_law_source" 19, dd "_law_draw" 20, dd "_law_pick" 21, dd "_law_mixed" 22, dd "_law_same" 23, dd "_law_stack" 24, dd "_law_gaps" 25, dd "_law_orders" 26, dd "_law_is_hill" 27, dd "_law_most" 28, dd "_law_order_right" 29, dd "_law_few_right" 30, dd "_law_many_right" 31, dd "law" 32]
def fa : List He.Fa := [.glo "is_list", .glo "is_whole", .glo "is_natural", .glo "is_block_row", .glo "stacked", .glo "stack_of", .glo "checked_margins", .glo "least_stack", .glo "greatest_stack", .glo "is_least_order", .glo "greatest_order", .glo "_law_source", .glo "_law_draw", .glo "_law_pick", .glo "_law_mixed", .glo "_law_same", .glo "_law_stack", .glo "_law_gaps", .glo "_law_orders", .glo "_law_is_hill", .glo "_law_most", .glo "_law_order_right", .glo "_law_few_right", .glo "_law_many_right", .glo "law", .free "isinstance", .free "list", .free "tuple", .free "int", .free "bool", .free "dict", .free "len", .free "all", .free "enumerate", .free "max", .free "min", .free "sum", .free "sorted", .free "zip", .free "range"]
def tf : List He.Defn := [dGr]
def ex : PySem.W.Frag → Bool := fun _ => true
abbrev R : PySem.W.OpenRow := PySem.W.OpenLaw.row PySem.Challenge.rw_pagefall_k41_whole_stacks_and_orders
abbrev hk : PySem.W.Hook := He.hookX 3 fa fn [] tf ex
def ob (s : PySem.W.SharedT) : He.AlX := He.obsX 3 fa fn [] tf ex (HandSHeadRun.getT s)
theorem ob_eq (s : PySem.W.SharedT) : ob s = hk.obs s.abs := He.obsX_eq (HandSHeadRun.getT_eq s)
def loose : List Str := ["is_list", "is_whole", "is_natural", "PageError", "BadRows", "BadMargins", "is_block_row", "stacked", "stack_of", "checked_margins", "least_stack", "greatest_stack", "is_least_order", "greatest_order",
  "_law_source", "_law_draw", "_law_pick", "_law_mixed", "_law_same", "_law_stack", "_law_gaps", "_law_orders", "_law_is_hill", "_law_most", "_law_order_right", "_law_few_right", "_law_many_right"]
theorem run (w : World) : HandSHeadRun.RunEq R (PySem.W.view R.prog [32]) hk ob 3000 loose w := by
  intro os
  kernel_rfl
theorem txt {K : PySem.W.Frag} {h : Heap} {mg : Str → Option Value} (X : K.In h) (G : h.Ns mainGlobals mg) (c : He.SaysD fa fn K) : Txt mg :=
  ⟨He.free_ok X G (c.fact 25 (f := .free "isinstance") rfl),
   He.free_ok X G (c.fact 26 (f := .free "list") rfl),
   He.free_ok X G (c.fact 27 (f := .free "tuple") rfl),
   He.free_ok X G (c.fact 28 (f := .free "int") rfl),
   He.free_ok X G (c.fact 29 (f := .free "bool") rfl),
   He.free_ok X G (c.fact 30 (f := .free "dict") rfl),
   He.free_ok X G (c.fact 31 (f := .free "len") rfl),
   He.free_ok X G (c.fact 32 (f := .free "all") rfl),
   He.free_ok X G (c.fact 33 (f := .free "enumerate") rfl),
   He.free_ok X G (c.fact 34 (f := .free "max") rfl),
   He.free_ok X G (c.fact 35 (f := .free "min") rfl),
   He.free_ok X G (c.fact 36 (f := .free "sum") rfl),
   He.free_ok X G (c.fact 37 (f := .free "sorted") rfl),
   He.free_ok X G (c.fact 38 (f := .free "zip") rfl),
   He.free_ok X G (c.fact 39 (f := .free "range") rfl)⟩
theorem facts {P : Program} {w w' : World} {K : PySem.W.Frag} {h base : Heap} {mg : Str → Option Value} {TP : Addr} (X : K.In h) (G : h.Ns mainGlobals mg) (c : He.SaysD fa fn K) (TB : LamX.TabB base mg (He.codeOf K dGr) TP) :
    ∃ fd, FnP K "law" slaw (He.fAd K ("law", none)) fd ∧ Cal P w K mg base 7 "law" ["_law_script"] (spLaw K TP TQ0) (He.fAd K ("law", none)) fd := by
  have T : Txt mg := txt X G c
  obtain ⟨fd0, F⟩ := c.def_ 0 (d := dd "is_list" 1) rfl
  have F : FnP K "is_list" sis_list (He.fAd K ("is_list", none)) fd0 := F
  have hm : mg "is_list" = some (.ref (He.fAd K ("is_list", none))) := He.glo_ok X G (c.fact 0 (f := .glo "is_list") rfl)
  have cis_list := ok_is_list (P := P) (w := w) (K := K) (mg := mg) (base := base) T F hm
  clear F hm
  obtain ⟨fd1, F⟩ := c.def_ 1 (d := dd "is_whole" 2) rfl
  have F : FnP K "is_whole" sis_whole (He.fAd K ("is_whole", none)) fd1 := F
  have hm : mg "is_whole" = some (.ref (He.fAd K ("is_whole", none))) := He.glo_ok X G (c.fact 1 (f := .glo "is_whole") rfl)
  have cis_whole := ok_is_whole (P := P) (w := w) (K := K) (mg := mg) (base := base) T F hm
  clear F hm
  obtain ⟨fd2, F⟩ := c.def_ 2 (d := dd "is_natural" 3) rfl
  have F : FnP K "is_natural" sis_natural (He.fAd K ("is_natural", none)) fd2 := F
  have hm : mg "is_natural" = some (.ref (He.fAd K ("is_natural", none))) := He.glo_ok X G (c.fact 2 (f := .glo "is_natural") rfl)
  have cis_natural := ok_is_natural (P := P) (w := w) (K := K) (mg := mg) (base := base) cis_whole F hm
  clear F hm
  obtain ⟨fd3, F⟩ := c.def_ 3 (d := dd "is_block_row" 10) rfl
  have F : FnP K "is_block_row" sis_block_row (He.fAd K ("is_block_row", none)) fd3 := F
  have hm : mg "is_block_row" = some (.ref (He.fAd K ("is_block_row", none))) := He.glo_ok X G (c.fact 3 (f := .glo "is_block_row") rfl)
  have cis_block_row := ok_block_row (P := P) (w := w) (K := K) (mg := mg) (base := base) T cis_list cis_natural F hm
  clear F hm
  obtain ⟨fd4, F⟩ := c.def_ 4 (d := dd "stacked" 11) rfl
  have F : FnP K "stacked" sstacked (He.fAd K ("stacked", none)) fd4 := F
  have hm : mg "stacked" = some (.ref (He.fAd K ("stacked", none))) := He.glo_ok X G (c.fact 4 (f := .glo "stacked") rfl)
  have cstacked := ok_stacked (P := P) (w := w) (K := K) (mg := mg) (base := base) T F hm
  clear F hm
  obtain ⟨fd5, F⟩ := c.def_ 5 (d := dd "stack_of" 12) rfl
  have F : FnP K "stack_of" sstack_of (He.fAd K ("stack_of", none)) fd5 := F
  have hm : mg "stack_of" = some (.ref (He.fAd K ("stack_of", none))) := He.glo_ok X G (c.fact 5 (f := .glo "stack_of") rfl)
  have cstack_of := ok_stack_of (P := P) (w := w) (K := K) (mg := mg) (base := base) T cis_list cis_block_row cstacked F hm
  clear F hm
  obtain ⟨fd6, F⟩ := c.def_ 6 (d := dd "checked_margins" 13) rfl
  have F : FnP K "checked_margins" schecked_margins (He.fAd K ("checked_margins", none)) fd6 := F
  have hm : mg "checked_margins" = some (.ref (He.fAd K ("checked_margins", none))) := He.glo_ok X G (c.fact 6 (f := .glo "checked_margins") rfl)
  have cchecked_margins := ok_checked (P := P) (w := w) (K := K) (mg := mg) (base := base) T cis_list cis_natural F hm
  clear F hm
  obtain ⟨fd7, F⟩ := c.def_ 7 (d := dd "least_stack" 14) rfl
  have F : FnP K "least_stack" sleast_stack (He.fAd K ("least_stack", none)) fd7 := F
  have hm : mg "least_stack" = some (.ref (He.fAd K ("least_stack", none))) := He.glo_ok X G (c.fact 7 (f := .glo "least_stack") rfl)
  have cleast_stack := ok_least (P := P) (w := w) (K := K) (mg := mg) (base := base) T cchecked_margins F hm
  clear F hm
  obtain ⟨fd8, F⟩ := c.def_ 8 (d := dd "greatest_stack" 15) rfl
  have F : FnP K "greatest_stack" sgreatest_stack (He.fAd K ("greatest_stack", none)) fd8 := F
  have hm : mg "greatest_stack" = some (.ref (He.fAd K ("greatest_stack", none))) := He.glo_ok X G (c.fact 8 (f := .glo "greatest_stack") rfl)
  have cgreatest_stack := ok_greatest (P := P) (w := w) (K := K) (mg := mg) (base := base) T cchecked_margins F hm
  clear F hm
  obtain ⟨fd9, F⟩ := c.def_ 9 (d := dd "is_least_order" 16) rfl
  have F : FnP K "is_least_order" sis_least_order (He.fAd K ("is_least_order", none)) fd9 := F
  have hm : mg "is_least_order" = some (.ref (He.fAd K ("is_least_order", none))) := He.glo_ok X G (c.fact 9 (f := .glo "is_least_order") rfl)
  have cis_least_order := ok_is_least (P := P) (w := w) (K := K) (mg := mg) (base := base) T cchecked_margins F hm
  clear F hm
  obtain ⟨fd10, F⟩ := c.def_ 10 (d := dd "greatest_order" 17) rfl
  have F : FnP K "greatest_order" sgreatest_order (He.fAd K ("greatest_order", none)) fd10 := F
  have hm : mg "greatest_order" = some (.ref (He.fAd K ("greatest_order", none))) := He.glo_ok X G (c.fact 10 (f := .glo "greatest_order") rfl)
  have cgreatest_order := ok_greatest_order (P := P) (w := w) (K := K) (mg := mg) (base := base) T cchecked_margins F hm rfl TB
  clear F hm
  obtain ⟨fd11, F⟩ := c.def_ 11 (d := dd "_law_source" 19) rfl
  have F : FnP K "_law_source" s_law_source (He.fAd K ("_law_source", none)) fd11 := F
  have hm : mg "_law_source" = some (.ref (He.fAd K ("_law_source", none))) := He.glo_ok X G (c.fact 11 (f := .glo "_law_source") rfl)
  have c_law_source := ok_source (P := P) (w := w) (K := K) (mg := mg) (base := base) T F hm
  clear F hm
  obtain ⟨fd12, F⟩ := c.def_ 12 (d := dd "_law_draw" 20) rfl
  have F : FnP K "_law_draw" s_law_draw (He.fAd K ("_law_draw", none)) fd12 := F
  have hm : mg "_law_draw" = some (.ref (He.fAd K ("_law_draw", none))) := He.glo_ok X G (c.fact 12 (f := .glo "_law_draw") rfl)
  have c_law_draw := ok_draw (P := P) (w := w) (K := K) (mg := mg) (base := base) (TP := TP) (TQ := TQ0) T F hm
  clear F hm
  obtain ⟨fd13, F⟩ := c.def_ 13 (d := dd "_law_pick" 21) rfl
  have F : FnP K "_law_pick" s_law_pick (He.fAd K ("_law_pick", none)) fd13 := F
  have hm : mg "_law_pick" = some (.ref (He.fAd K ("_law_pick", none))) := He.glo_ok X G (c.fact 13 (f := .glo "_law_pick") rfl)
  have c_law_pick := ok_pick (P := P) (w := w) (K := K) (mg := mg) (base := base) T c_law_draw F hm
  clear F hm
  obtain ⟨fd14, F⟩ := c.def_ 14 (d := dd "_law_mixed" 22) rfl
  have F : FnP K "_law_mixed" s_law_mixed (He.fAd K ("_law_mixed", none)) fd14 := F
  have hm : mg "_law_mixed" = some (.ref (He.fAd K ("_law_mixed", none))) := He.glo_ok X G (c.fact 14 (f := .glo "_law_mixed") rfl)
  have c_law_mixed := ok_mixed (P := P) (w := w) (K := K) (mg := mg) (base := base) T c_law_draw F hm
  clear F hm
  obtain ⟨fd15, F⟩ := c.def_ 15 (d := dd "_law_same" 23) rfl
  have F : FnP K "_law_same" s_law_same (He.fAd K ("_law_same", none)) fd15 := F
  have hm : mg "_law_same" = some (.ref (He.fAd K ("_law_same", none))) := He.glo_ok X G (c.fact 15 (f := .glo "_law_same") rfl)
  have c_law_same := ok_same (P := P) (w := w) (K := K) (mg := mg) (base := base) T F hm
  clear F hm
  obtain ⟨fd16, F⟩ := c.def_ 16 (d := dd "_law_stack" 24) rfl
  have F : FnP K "_law_stack" s_law_stack (He.fAd K ("_law_stack", none)) fd16 := F
  have hm : mg "_law_stack" = some (.ref (He.fAd K ("_law_stack", none))) := He.glo_ok X G (c.fact 16 (f := .glo "_law_stack") rfl)
  have c_law_stack := ok_law_stack (P := P) (w := w) (K := K) (mg := mg) (base := base) T F hm
  clear F hm
  obtain ⟨fd17, F⟩ := c.def_ 17 (d := dd "_law_gaps" 25) rfl
  have F : FnP K "_law_gaps" s_law_gaps (He.fAd K ("_law_gaps", none)) fd17 := F
  have hm : mg "_law_gaps" = some (.ref (He.fAd K ("_law_gaps", none))) := He.glo_ok X G (c.fact 17 (f := .glo "_law_gaps") rfl)
  have c_law_gaps := ok_gaps (P := P) (w := w) (K := K) (mg := mg) (base := base) T F hm
  clear F hm
  obtain ⟨fd18, F⟩ := c.def_ 18 (d := dd "_law_orders" 26) rfl
  have F : FnP K "_law_orders" s_law_orders (He.fAd K ("_law_orders", none)) fd18 := F
  have hm : mg "_law_orders" = some (.ref (He.fAd K ("_law_orders", none))) := He.glo_ok X G (c.fact 18 (f := .glo "_law_orders") rfl)
  have c_law_orders := ok_orders (P := P) (w := w) (K := K) (mg := mg) (base := base) T F hm
  clear F hm
  obtain ⟨fd19, F⟩ := c.def_ 19 (d := dd "_law_is_hill" 27) rfl
  have F : FnP K "_law_is_hill" s_law_is_hill (He.fAd K ("_law_is_hill", none)) fd19 := F
  have hm : mg "_law_is_hill" = some (.ref (He.fAd K ("_law_is_hill", none))) := He.glo_ok X G (c.fact 19 (f := .glo "_law_is_hill") rfl)
  have c_law_is_hill := ok_hill (P := P) (w := w) (K := K) (mg := mg) (base := base) T F hm
  clear F hm
  obtain ⟨fd20, F⟩ := c.def_ 20 (d := dd "_law_most" 28) rfl
  have F : FnP K "_law_most" s_law_most (He.fAd K ("_law_most", none)) fd20 := F
  have hm : mg "_law_most" = some (.ref (He.fAd K ("_law_most", none))) := He.glo_ok X G (c.fact 20 (f := .glo "_law_most") rfl)
  have c_law_most := ok_most (P := P) (w := w) (K := K) (mg := mg) (base := base) T F hm
  clear F hm
  obtain ⟨fd21, F⟩ := c.def_ 21 (d := dd "_law_order_right" 29) rfl
  have F : FnP K "_law_order_right" s_law_order_right (He.fAd K ("_law_order_right", none)) fd21 := F
  have hm : mg "_law_order_right" = some (.ref (He.fAd K ("_law_order_right", none))) := He.glo_ok X G (c.fact 21 (f := .glo "_law_order_right") rfl)
  have c_law_order_right := ok_order_right (P := P) (w := w) (K := K) (mg := mg) (base := base) T cgreatest_order c_law_pick c_law_same c_law_gaps c_law_most F hm
  clear F hm
  obtain ⟨fd22, F⟩ := c.def_ 22 (d := dd "_law_few_right" 30) rfl
  have F : FnP K "_law_few_right" s_law_few_right (He.fAd K ("_law_few_right", none)) fd22 := F
  have hm : mg "_law_few_right" = some (.ref (He.fAd K ("_law_few_right", none))) := He.glo_ok X G (c.fact 22 (f := .glo "_law_few_right") rfl)
  have c_law_few_right := ok_few_right (P := P) (w := w) (K := K) (mg := mg) (base := base) T c_law_draw c_law_pick c_law_orders c_law_gaps c_law_same cleast_stack cgreatest_stack c_law_mixed cis_least_order c_law_is_hill c_law_order_right F hm
  clear F hm
  obtain ⟨fd23, F⟩ := c.def_ 23 (d := dd "_law_many_right" 31) rfl
  have F : FnP K "_law_many_right" s_law_many_right (He.fAd K ("_law_many_right", none)) fd23 := F
  have hm : mg "_law_many_right" = some (.ref (He.fAd K ("_law_many_right", none))) := He.glo_ok X G (c.fact 23 (f := .glo "_law_many_right") rfl)
  have c_law_many_right := ok_many_right (P := P) (w := w) (K := K) (mg := mg) (base := base) T c_law_draw c_law_pick c_law_same cleast_stack cgreatest_stack cis_least_order c_law_is_hill c_law_most c_law_order_right F hm
  clear F hm
  obtain ⟨fd24, F⟩ := c.def_ 24 (d := dd "law" 32) rfl
  have F : FnP K "law" slaw (He.fAd K ("law", none)) fd24 := F
  have hm : mg "law" = some (.ref (He.fAd K ("law", none))) := He.glo_ok X G (c.fact 24 (f := .glo "law") rfl)
  exact ⟨_, F, ok_law (P := P) (w := w) (K := K) (mg := mg) (base := base) T c_law_source c_law_draw c_law_pick cstack_of c_law_same c_law_stack c_law_few_right c_law_many_right F hm⟩
theorem at_law {w : World} {K : PySem.W.Frag} {h : Heap} {mg : Str → Option Value} {f : Addr} (X : K.In h) (G : h.Ns mainGlobals mg) (hfa : mg ("law" : Str) = some (.ref f)) (c : He.SaysX fa fn [] tf ex w h K) :
    LamX.LawAtS PySem.Challenge.rw_pagefall_k41_whole_stacks_and_orders w K CX0 7 63 "_law_script" mg f h := by
  have e := hfa.symm.trans (He.glo_ok X G (c.t.d.fact 24 (f := .glo "law") rfl))
  cases e
  have mT : dGr ∈ tf := List.mem_cons_self ..
  obtain ⟨fd, F⟩ := c.t.d.def_ 24 (d := dd "law" 32) rfl
  have F : FnP K "law" slaw (He.fAd K ("law", none)) fd := F
  have b := FunD.bindsA (ps := ["_law_script"]) F fun _ _ _ _ _ _ us hl => match us, hl with | [_], _ => rfl
  have one : ∀ {p : Addr × Addr}, p ∈ [He.cT K dGr] → p = He.cT K dGr := fun hp => List.mem_singleton.mp hp
  refine ⟨fd, [He.cT K dGr], spLaw K (He.cT K dGr).2 TQ0, fun p hp => ?_, fun p hp => ?_, fun p hp => ?_, fun s v => b s [v] rfl, fun H a ns hl _ hTab hS => ?_, fun base KB GB hTB => ?_⟩
  · rw [one hp]; exact c.empty _ mT
  · rw [one hp]; exact c.out _ mT
  · rw [one hp]; exact PySem.W.codeHd_of_K X (c.hd _ mT)
  · exact ⟨a, ns, rfl, hS, hl, LamX.TabS.nil (hTab _ (List.mem_cons_self ..)), fun _ => rfl⟩
  · obtain ⟨fd', F', C⟩ := facts (P := (PySem.Challenge.rw_pagefall_k41_whole_stacks_and_orders).prog) (w := w) (w' := w) X G c.t.d (hTB _ (List.mem_cons_self ..))
    have e : fd' = fd := by
      obtain ⟨oc, od, dV, kV, doc, pm, an, cdv, ct, osl, _, lk, _⟩ := F.ex
      obtain ⟨oc', od', dV', kV', doc', pm', an', cdv', ct', osl', _, lk', _⟩ := F'.ex
      rw [lk] at lk'
      injection lk' with lk'
      injection lk' with _ _ e3
      injection e3 with e4
      exact e4.symm
    rw [← e]
    exact C.ok
end K41
open PySem PySem.W PySem.Calls PyProof.Rows
theorem PySem.Challenge.cw_pagefall_k41_whole_stacks_and_orders_holds : PySem.Challenge.rw_pagefall_k41_whole_stacks_and_orders.Holds := by
  w_on; o_law
  refine HandSHeadRun.head_any (r := K41.R) (q := view K41.R.prog [32]) (H := K41.hk) (ob := K41.ob) (M := 3000) (loose := K41.loose) (d := HandSHeadRun.topDef K41.R.prog 32) (kwd := []) K41.ob_eq
    (by kernel_rfl) (fun s => by kernel_rfl) K41.run (by kernel_rfl) (by kernel_rfl) (by kernel_rfl) (by rfl) (by first | assumption | decide +kernel) (by decide +kernel) ⟨rfl, rfl, rfl, rfl, rfl, by decide +kernel⟩ ?hw ?hc
  case hw => w_witness2
  case hc =>
    refine LamX.walk_ofTsE (l := PySem.Challenge.rw_pagefall_k41_whole_stacks_and_orders) (n := 63) (k := 7) (x := "_law_script") (CX := fun _ => L2.CX0) rfl (by decide) (by kernel_rfl) ⟨rfl, by decide, by decide⟩ ?F (fun _ _ _ _ _ z => z)
    intro w mg fa h Y G hmg0
    obtain ⟨K, KX, c⟩ := Y
    have hmg : mg ("law" : PySem.Str) = some (.ref fa) := by
      have e : (HandSHeadRun.topDef K41.R.prog 32).name = ("law" : PySem.Str) := by kernel_rfl
      rw [← e]
      exact hmg0
    exact ⟨K, KX, K41.at_law KX G hmg c⟩
