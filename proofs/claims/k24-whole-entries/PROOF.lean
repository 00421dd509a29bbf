import PyProof.Rows.All
import Wide.All
import OpenK.AllK
import Wide.FinOn
import HandS.ForMost
import KE.KExcSuper
import HandS.Exc
import HandS.ExcOwn
import HandS.ExcInit
import HandS.WordsExc
import KE.GoesEnum
import KE.GoesMore
import HandS.Wide
import HandS.Property
import HandS.DictComp
import HandS.Conv
import HandS.TryMany
import HandS.ExcField
import HandS.ExcIs
import KE.KExcIs
import HandS.Lambda
import HandS.IsInst
import HandS.Comp
import HandS.SortInts
import HandS.ListItems
import HandS.Style
import KE.SortData
import PyProof.ReprRoads
import KE.KEqDict
import HandS.TupMul
import HandS.TupAny
import HandS.EndTab
import PySem.Challenge.RW_paperbest_k24_whole_entries_told_by_the
set_option Elab.async false
set_option linter.all false
set_option maxRecDepth 100000
set_option maxHeartbeats 4000000
/-! K24Top: The text by places; the slots of each def. Printed by gen_top.py. -/
namespace K24
open PySem L2
def top (i : Nat) : Stmt := PySem.Challenge.pw_paperbest_k24_whole_entries_told_by_the.main.body.getD i (.Pass ⟨0, 0, 0, 0⟩)
abbrev s_Inv_init : Stmt := inClass (top 3) 0
abbrev s_Ref_init : Stmt := inClass (top 4) 0
abbrev s_is_integer : Stmt := top 6
theorem sc_is_integer : FnScope ["value"] ["value"] (defScope s_is_integer) := ⟨rfl, rfl, rfl, by decide +kernel, rfl, by decide +kernel, by decide +kernel⟩
abbrev s_is_number : Stmt := top 7
theorem sc_is_number : FnScope ["value"] ["value"] (defScope s_is_number) := ⟨rfl, rfl, rfl, by decide +kernel, rfl, by decide +kernel, by decide +kernel⟩
abbrev s_need_number : Stmt := top 8
theorem sc_need_number : FnScope ["value", "most", "word"] ["value", "most", "word"] (defScope s_need_number) := ⟨rfl, rfl, rfl, by decide +kernel, rfl, by decide +kernel, by decide +kernel⟩
abbrev s_shared_divisor : Stmt := top 11
theorem sc_shared_divisor : FnScope ["one", "other"] ["one", "other"] (defScope s_shared_divisor) := ⟨rfl, rfl, rfl, by decide +kernel, rfl, by decide +kernel, by decide +kernel⟩
abbrev s_fraction_of : Stmt := top 12
theorem sc_fraction_of : FnScope ["top", "bottom", "factor"] ["top", "bottom"] (defScope s_fraction_of) := ⟨rfl, rfl, rfl, by decide +kernel, rfl, by decide +kernel, by decide +kernel⟩
abbrev s_whole : Stmt := top 13
theorem sc_whole : FnScope ["number"] ["number"] (defScope s_whole) := ⟨rfl, rfl, rfl, by decide +kernel, rfl, by decide +kernel, by decide +kernel⟩
abbrev s_is_fraction : Stmt := top 14
theorem sc_is_fraction : FnScope ["value", "item"] ["value"] (defScope s_is_fraction) := ⟨rfl, rfl, rfl, by decide +kernel, rfl, by decide +kernel, by decide +kernel⟩
abbrev s_added : Stmt := top 15
theorem sc_added : FnScope ["one", "other"] ["one", "other"] (defScope s_added) := ⟨rfl, rfl, rfl, by decide +kernel, rfl, by decide +kernel, by decide +kernel⟩
abbrev s_timed : Stmt := top 16
theorem sc_timed : FnScope ["one", "other"] ["one", "other"] (defScope s_timed) := ⟨rfl, rfl, rfl, by decide +kernel, rfl, by decide +kernel, by decide +kernel⟩
abbrev s_is_less : Stmt := top 17
theorem sc_is_less : FnScope ["one", "other"] ["one", "other"] (defScope s_is_less) := ⟨rfl, rfl, rfl, by decide +kernel, rfl, by decide +kernel, by decide +kernel⟩
abbrev s_between_ends : Stmt := top 19
theorem sc_between_ends : FnScope ["value", "ends", "low", "high"] ["value", "ends"] (defScope s_between_ends) := ⟨rfl, rfl, rfl, by decide +kernel, rfl, by decide +kernel, by decide +kernel⟩
abbrev s_are_crossed : Stmt := top 20
theorem sc_are_crossed : FnScope ["ends"] ["ends"] (defScope s_are_crossed) := ⟨rfl, rfl, rfl, by decide +kernel, rfl, by decide +kernel, by decide +kernel⟩
abbrev s_Tab_init : Stmt := inClass (top 21) 0
theorem sc_Tab_init : FnScope ["self", "rows", "box", "low", "high", "at", "ends", "row"] ["self", "rows", "box"] (defScope s_Tab_init) := ⟨rfl, rfl, rfl, by decide +kernel, rfl, by decide +kernel, by decide +kernel⟩
abbrev s_Tab_places : Stmt := inClass (top 21) 1
theorem sc_Tab_places : FnScope ["self"] ["self"] (defScope s_Tab_places) := ⟨rfl, rfl, rfl, by decide +kernel, rfl, by decide +kernel, by decide +kernel⟩
abbrev s_Tab_basis : Stmt := inClass (top 21) 2
theorem sc_Tab_basis : FnScope ["self"] ["self"] (defScope s_Tab_basis) := ⟨rfl, rfl, rfl, by decide +kernel, rfl, by decide +kernel, by decide +kernel⟩
abbrev s_Tab_columns : Stmt := inClass (top 21) 3
theorem sc_Tab_columns : FnScope ["self"] ["self"] (defScope s_Tab_columns) := ⟨rfl, rfl, rfl, by decide +kernel, rfl, by decide +kernel, by decide +kernel⟩
abbrev s_Tab_add_row : Stmt := inClass (top 21) 4
theorem sc_Tab_add_row : FnScope ["self", "row", "coefficients", "equal", "bound", "place", "entries", "column", "at", "amount", "entry"] ["self", "row"] (defScope s_Tab_add_row) := ⟨rfl, rfl, rfl, by decide +kernel, rfl, by decide +kernel, by decide +kernel⟩
abbrev s_Tab_ends : Stmt := inClass (top 21) 5
theorem sc_Tab_ends : FnScope ["self", "place"] ["self", "place"] (defScope s_Tab_ends) := ⟨rfl, rfl, rfl, by decide +kernel, rfl, by decide +kernel, by decide +kernel⟩
abbrev s_Tab_value : Stmt := inClass (top 21) 6
theorem sc_Tab_value : FnScope ["self", "place", "total", "column", "entry"] ["self", "place"] (defScope s_Tab_value) := ⟨rfl, rfl, rfl, by decide +kernel, rfl, by decide +kernel, by decide +kernel⟩
abbrev s_Tab_point : Stmt := inClass (top 21) 7
theorem sc_Tab_point : FnScope ["self", "at"] ["self"] (defScope s_Tab_point) := ⟨rfl, rfl, rfl, by decide +kernel, rfl, by decide +kernel, by decide +kernel⟩
abbrev s_Tab_check_pair : Stmt := inClass (top 21) 8
theorem sc_Tab_check_pair : FnScope ["self", "place", "column"] ["self", "place", "column"] (defScope s_Tab_check_pair) := ⟨rfl, rfl, rfl, by decide +kernel, rfl, by decide +kernel, by decide +kernel⟩
abbrev s_Tab_entry : Stmt := inClass (top 21) 9
theorem sc_Tab_entry : FnScope ["self", "place", "column"] ["self", "place", "column"] (defScope s_Tab_entry) := ⟨rfl, rfl, rfl, by decide +kernel, rfl, by decide +kernel, by decide +kernel⟩
abbrev s_Tab_row_at : Stmt := inClass (top 21) 10
theorem sc_Tab_row_at : FnScope ["self", "place", "row", "column"] ["self", "place"] (defScope s_Tab_row_at) := ⟨rfl, rfl, rfl, by decide +kernel, rfl, by decide +kernel, by decide +kernel⟩
abbrev s_Tab_exchanged_row : Stmt := inClass (top 21) 11
theorem sc_Tab_exchanged_row : FnScope ["self", "row", "pivot_row", "place", "column", "pivot", "factor", "sign", "found", "at", "entry"] ["self", "row", "pivot_row", "place", "column"] (defScope s_Tab_exchanged_row) := ⟨rfl, rfl, rfl, by decide +kernel, rfl, by decide +kernel, by decide +kernel⟩
abbrev s_Tab_exchange : Stmt := inClass (top 21) 12
theorem sc_Tab_exchange : FnScope ["self", "place", "column", "row", "sign", "now", "table", "other", "entries", "solved", "at", "entry"] ["self", "place", "column"] (defScope s_Tab_exchange) := ⟨rfl, rfl, rfl, by decide +kernel, rfl, by decide +kernel, by decide +kernel⟩
abbrev s_Tab_move : Stmt := inClass (top 21) 13
theorem sc_Tab_move : FnScope ["self", "column", "value"] ["self", "column", "value"] (defScope s_Tab_move) := ⟨rfl, rfl, rfl, by decide +kernel, rfl, by decide +kernel, by decide +kernel⟩
abbrev s_Tab_give_ends : Stmt := inClass (top 21) 14
theorem sc_Tab_give_ends : FnScope ["self", "place", "ends"] ["self", "place", "ends"] (defScope s_Tab_give_ends) := ⟨rfl, rfl, rfl, by decide +kernel, rfl, by decide +kernel, by decide +kernel⟩
abbrev s_Tab_put_end : Stmt := inClass (top 21) 15
theorem sc_Tab_put_end : FnScope ["self", "place", "side", "value", "low", "high", "ends"] ["self", "place", "side", "value"] (defScope s_Tab_put_end) := ⟨rfl, rfl, rfl, by decide +kernel, rfl, by decide +kernel, by decide +kernel⟩
abbrev s_l_heap : Stmt := top 23
theorem sc_l_heap : FnScope ["_law_script", "_law_cells", "_law_stir", "_law_cell"] ["_law_script"] (defScope s_l_heap) := ⟨rfl, rfl, rfl, by decide +kernel, rfl, by decide +kernel, by decide +kernel⟩
abbrev s_l_draw : Stmt := top 24
theorem sc_l_draw : FnScope ["_law_heap_here", "_law_many", "_law_rest"] ["_law_heap_here", "_law_many"] (defScope s_l_draw) := ⟨rfl, rfl, rfl, by decide +kernel, rfl, by decide +kernel, by decide +kernel⟩
abbrev s_l_pick : Stmt := top 25
theorem sc_l_pick : FnScope ["_law_heap_here", "_law_some"] ["_law_heap_here", "_law_some"] (defScope s_l_pick) := ⟨rfl, rfl, rfl, by decide +kernel, rfl, by decide +kernel, by decide +kernel⟩
abbrev s_l_factor : Stmt := top 26
theorem sc_l_factor : FnScope ["_law_one", "_law_other"] ["_law_one", "_law_other"] (defScope s_l_factor) := ⟨rfl, rfl, rfl, by decide +kernel, rfl, by decide +kernel, by decide +kernel⟩
abbrev s_l_low : Stmt := top 27
theorem sc_l_low : FnScope ["_law_top", "_law_bottom", "_law_factor_here"] ["_law_top", "_law_bottom"] (defScope s_l_low) := ⟨rfl, rfl, rfl, by decide +kernel, rfl, by decide +kernel, by decide +kernel⟩
abbrev s_l_same : Stmt := top 31
theorem sc_l_same : FnScope ["_law_told", "_law_due"] ["_law_told", "_law_due"] (defScope s_l_same) := ⟨rfl, rfl, rfl, by decide +kernel, rfl, by decide +kernel, by decide +kernel⟩
abbrev s_l_row : Stmt := top 32
theorem sc_l_row : FnScope ["_law_heap_here", "_law_size", "_law_most", "_law_parts", "_law_place", "_law_at"] ["_law_heap_here", "_law_size"] (defScope s_l_row) := ⟨rfl, rfl, rfl, by decide +kernel, rfl, by decide +kernel, by decide +kernel⟩
abbrev s_l_heard : Stmt := top 33
theorem sc_l_heard : FnScope ["_law_work", "error"] ["_law_work"] (defScope s_l_heard) := ⟨rfl, rfl, rfl, by decide +kernel, rfl, by decide +kernel, by decide +kernel⟩
abbrev s_l_determinant : Stmt := top 34
theorem sc_l_determinant : FnScope ["_law_lines", "_law_total", "_law_sign", "_law_at", "_law_rest", "_law_line"] ["_law_lines"] (defScope s_l_determinant) := ⟨rfl, rfl, rfl, by decide +kernel, rfl, by decide +kernel, by decide +kernel⟩
abbrev s_l_entry : Stmt := top 35
theorem sc_l_entry : FnScope ["_law_forms", "_law_columns", "_law_place", "_law_column", "_law_lower", "_law_at", "_law_upper"] ["_law_forms", "_law_columns", "_law_place", "_law_column"] (defScope s_l_entry) := ⟨rfl, rfl, rfl, by decide +kernel, rfl, by decide +kernel, by decide +kernel⟩
abbrev s_l_entries_right : Stmt := top 36
theorem sc_l_entries_right : FnScope ["_law_table", "_law_forms", "_law_basis", "_law_columns", "_law_below", "_law_at", "_law_place", "_law_column", "_law_told"] ["_law_table", "_law_forms"] (defScope s_l_entries_right) := ⟨rfl, rfl, rfl, by decide +kernel, rfl, by decide +kernel, by decide +kernel⟩
abbrev s_l_wander : Stmt := top 37
theorem sc_l_wander : FnScope ["_law_heap_here", "_law_table", "_law_turns", "_law_turn", "_law_place", "_law_column"] ["_law_heap_here", "_law_table", "_law_turns"] (defScope s_l_wander) := ⟨rfl, rfl, rfl, by decide +kernel, rfl, by decide +kernel, by decide +kernel⟩
abbrev s_l_led : Stmt := top 38
theorem sc_l_led : FnScope ["_law_table", "_law_goal", "_law_turn", "_law_fresh", "_law_at", "_law_some", "_law_place"] ["_law_table", "_law_goal"] (defScope s_l_led) := ⟨rfl, rfl, rfl, by decide +kernel, rfl, by decide +kernel, by decide +kernel⟩
abbrev s_l_back_right : Stmt := top 39
theorem sc_l_back_right : FnScope ["_law_heap_here", "_law_table", "_law_place", "_law_column", "_law_before", "_law_at", "_law_point", "_law_entry_here"] ["_law_heap_here", "_law_table"] (defScope s_l_back_right) := ⟨rfl, rfl, rfl, by decide +kernel, rfl, by decide +kernel, by decide +kernel⟩
abbrev s_l_refusals_right : Stmt := top 40
theorem sc_l_refusals_right : FnScope ["_law_heap_here", "_law_table", "_law_place", "_law_column", "_law_odd", "_law_work"] ["_law_heap_here", "_law_table"] (defScope s_l_refusals_right) := ⟨rfl, rfl, rfl, by decide +kernel, rfl, by decide +kernel, by decide +kernel⟩
abbrev s_l_world_right : Stmt := top 41
theorem sc_l_world_right : FnScope ["_law_heap_here", "_law_turns", "_law_size", "_law_rows", "_law_turn", "_law_forms", "_law_at", "_law_place", "_law_row_here", "_law_box", "_law_one", "_law_other", "_law_side", "_law_goal", "_law_kept"] ["_law_heap_here", "_law_turns"] (defScope s_l_world_right) := ⟨rfl, rfl, rfl, by decide +kernel, rfl, by decide +kernel, by decide +kernel⟩
abbrev s_law : Stmt := top 42
theorem sc_law : FnScope ["_law_script", "_law_heap_here", "_law_turn", "_law_table", "_law_flat", "error"] ["_law_script"] (defScope s_law) := ⟨rfl, rfl, rfl, by decide +kernel, rfl, by decide +kernel, by decide +kernel⟩
end K24
/-! K24M: The plain mathematics: determinants by the first row, rows as functions; Cramer; lowest terms. -/
namespace K24
namespace M
/-- the sum over the columns of a row, each with the rest of the columns -/
def E1 (a : Nat → Int) : List Nat → (List Nat → Int) → Int
  | [], _ => 0
  | c :: cs, g => a c * g cs - E1 a cs (fun l => g (c :: l))
/-- the determinant of the rows at the columns -/
def D : List Nat → List (Nat → Int) → Int
  | _, [] => 1
  | cs, r :: rs => E1 r cs (fun l => D l rs)
theorem D_nil (cs : List Nat) : D cs [] = 1 := by cases cs <;> rfl
theorem D_cons (cs : List Nat) (r : Nat → Int) (rs : List (Nat → Int)) : D cs (r :: rs) = E1 r cs (fun l => D l rs) := by cases cs <;> rfl
theorem E1_congr (a : Nat → Int) : ∀ (cs : List Nat) (g g' : List Nat → Int), (∀ l, g l = g' l) → E1 a cs g = E1 a cs g'
  | [], _, _, _ => rfl
  | c :: cs, g, g', h => by
    show a c * g cs - E1 a cs (fun l => g (c :: l)) = a c * g' cs - E1 a cs (fun l => g' (c :: l))
    rw [h cs, E1_congr a cs (fun l => g (c :: l)) (fun l => g' (c :: l)) fun l => h (c :: l)]
theorem E1_comb (a : Nat → Int) (x y : Int) : ∀ (cs : List Nat) (g g' : List Nat → Int), E1 a cs (fun l => x * g l + y * g' l) = x * E1 a cs g + y * E1 a cs g'
  | [], _, _ => by simp [E1]
  | c :: cs, g, g' => by
    show a c * (x * g cs + y * g' cs) - E1 a cs (fun l => x * g (c :: l) + y * g' (c :: l)) = x * (a c * g cs - E1 a cs (fun l => g (c :: l))) + y * (a c * g' cs - E1 a cs (fun l => g' (c :: l)))
    rw [E1_comb a x y cs (fun l => g (c :: l)) (fun l => g' (c :: l))]
    grind
theorem E1_row (a b : Nat → Int) (x y : Int) : ∀ (cs : List Nat) (g : List Nat → Int), E1 (fun j => x * a j + y * b j) cs g = x * E1 a cs g + y * E1 b cs g
  | [], _ => by simp [E1]
  | c :: cs, g => by
    show (x * a c + y * b c) * g cs - E1 (fun j => x * a j + y * b j) cs (fun l => g (c :: l)) = x * (a c * g cs - E1 a cs (fun l => g (c :: l))) + y * (b c * g cs - E1 b cs (fun l => g (c :: l)))
    rw [E1_row a b x y cs (fun l => g (c :: l))]
    grind
/-- the two first rows change places -/
theorem E1_swap (a b : Nat → Int) : ∀ (cs : List Nat) (g : List Nat → Int), E1 a cs (fun l => E1 b l g) + E1 b cs (fun l => E1 a l g) = 0
  | [], _ => by simp [E1]
  | c :: cs, g => by
    show (a c * E1 b cs g - E1 a cs (fun l => b c * g l - E1 b l (fun m => g (c :: m)))) + (b c * E1 a cs g - E1 b cs (fun l => a c * g l - E1 a l (fun m => g (c :: m)))) = 0
    have h1 : E1 a cs (fun l => b c * g l - E1 b l (fun m => g (c :: m))) = b c * E1 a cs g - E1 a cs (fun l => E1 b l (fun m => g (c :: m))) := by
      rw [E1_congr a cs _ (fun l => b c * g l + (-1) * E1 b l (fun m => g (c :: m))) (fun l => by grind), E1_comb]
      grind
    have h2 : E1 b cs (fun l => a c * g l - E1 a l (fun m => g (c :: m))) = a c * E1 b cs g - E1 b cs (fun l => E1 a l (fun m => g (c :: m))) := by
      rw [E1_congr b cs _ (fun l => a c * g l + (-1) * E1 a l (fun m => g (c :: m))) (fun l => by grind), E1_comb]
      grind
    rw [h1, h2]
    have ih := E1_swap a b cs (fun m => g (c :: m))
    omega
theorem D_swap0 (cs : List Nat) (a b : Nat → Int) (rs : List (Nat → Int)) : D cs (a :: b :: rs) = - D cs (b :: a :: rs) := by
  have h := E1_swap a b cs (fun l => D l rs)
  have e1 : D cs (a :: b :: rs) = E1 a cs (fun l => E1 b l fun m => D m rs) := by
    rw [D_cons]
    exact E1_congr _ _ _ _ fun l => D_cons _ _ _
  have e2 : D cs (b :: a :: rs) = E1 b cs (fun l => E1 a l fun m => D m rs) := by
    rw [D_cons]
    exact E1_congr _ _ _ _ fun l => D_cons _ _ _
  omega
/-- a uniform sign under a permutation of the rows -/
theorem D_perm {l l' : List (Nat → Int)} (p : l.Perm l') : ∃ s : Int, (s = 1 ∨ s = -1) ∧ ∀ cs, D cs l = s * D cs l' := by
  induction p with
  | nil => exact ⟨1, .inl rfl, fun cs => by omega⟩
  | @cons x r1 r2 _ ih =>
    obtain ⟨s, hs, h⟩ := ih
    refine ⟨s, hs, fun cs => ?_⟩
    rw [D_cons, D_cons, E1_congr _ _ _ _ h]
    have q := E1_comb x s 0 cs (fun l => D l r2) (fun _ => 0)
    rw [E1_congr x cs _ (fun l => s * D l r2) (fun l => by omega)] at q
    rw [q]
    omega
  | swap x y l => exact ⟨-1, .inr rfl, fun cs => by rw [D_swap0]; omega⟩
  | trans _ _ ih1 ih2 =>
    obtain ⟨s, hs, h⟩ := ih1
    obtain ⟨t, ht, k⟩ := ih2
    refine ⟨s * t, ?_, fun cs => by rw [h, k, Int.mul_assoc]⟩
    rcases hs with rfl | rfl <;> rcases ht with rfl | rfl <;> decide
/-- two equal rows -/
theorem D_twice (cs : List Nat) (a : Nat → Int) (l1 l2 l3 : List (Nat → Int)) : D cs (l1 ++ a :: l2 ++ a :: l3) = 0 := by
  have p : (l1 ++ a :: l2 ++ a :: l3).Perm (a :: a :: (l1 ++ l2 ++ l3)) := by
    have p1 : (l1 ++ a :: l2 ++ a :: l3).Perm (a :: (l1 ++ a :: l2 ++ l3)) := List.perm_middle
    have p2 : (l1 ++ a :: l2 ++ l3).Perm (a :: (l1 ++ l2 ++ l3)) := by
      rw [List.append_assoc, List.append_assoc]
      exact List.perm_middle
    exact p1.trans (p2.cons a)
  obtain ⟨s, _, h⟩ := D_perm p
  have q := D_swap0 cs a a (l1 ++ l2 ++ l3)
  have z : D cs (a :: a :: (l1 ++ l2 ++ l3)) = 0 := by omega
  rw [h, z]
  omega
/-- linear in each row -/
theorem D_lin (a b : Nat → Int) (x y : Int) (l2 : List (Nat → Int)) : ∀ (l1 : List (Nat → Int)) (cs : List Nat), D cs (l1 ++ (fun j => x * a j + y * b j) :: l2) = x * D cs (l1 ++ a :: l2) + y * D cs (l1 ++ b :: l2)
  | [], cs => by
    show D cs ((fun j => x * a j + y * b j) :: l2) = x * D cs (a :: l2) + y * D cs (b :: l2)
    rw [D_cons, D_cons, D_cons, E1_row]
  | r :: l1, cs => by
    show D cs (r :: (l1 ++ (fun j => x * a j + y * b j) :: l2)) = x * D cs (r :: (l1 ++ a :: l2)) + y * D cs (r :: (l1 ++ b :: l2))
    rw [D_cons, D_cons, D_cons, E1_congr _ _ _ _ fun l => D_lin a b x y l2 l1 l, E1_comb]
/-! K24M: ### sums over lists -/
def sm {α : Type} (l : List α) (f : α → Int) : Int := l.foldr (fun a t => f a + t) 0
theorem sm_nil {α : Type} (f : α → Int) : sm [] f = 0 := rfl
theorem sm_cons {α : Type} (a : α) (l : List α) (f : α → Int) : sm (a :: l) f = f a + sm l f := rfl
theorem sm_append {α : Type} (f : α → Int) : ∀ l l' : List α, sm (l ++ l') f = sm l f + sm l' f
  | [], l' => by simp [sm_nil]
  | a :: l, l' => by rw [List.cons_append, sm_cons, sm_cons, sm_append f l l']; omega
theorem sm_congr {α : Type} {f g : α → Int} : ∀ {l : List α}, (∀ a ∈ l, f a = g a) → sm l f = sm l g
  | [], _ => rfl
  | a :: l, h => by rw [sm_cons, sm_cons, h a (List.mem_cons_self ..), sm_congr fun b hb => h b (List.mem_cons_of_mem _ hb)]
theorem sm_zero {α : Type} {f : α → Int} {l : List α} (h : ∀ a ∈ l, f a = 0) : sm l f = 0 := by
  rw [sm_congr (g := fun _ => 0) h]
  induction l with
  | nil => rfl
  | cons a l ih => rw [sm_cons, ih fun b hb => h b (List.mem_cons_of_mem _ hb)]; rfl
theorem sm_mul {α : Type} (f : α → Int) (x : Int) : ∀ l : List α, sm l (fun a => x * f a) = x * sm l f
  | [] => by simp [sm_nil]
  | a :: l => by rw [sm_cons, sm_cons, sm_mul f x l, Int.mul_add]
theorem sm_sub {α : Type} (f g : α → Int) : ∀ l : List α, sm l (fun a => f a - g a) = sm l f - sm l g
  | [] => rfl
  | a :: l => by rw [sm_cons, sm_cons, sm_cons, sm_sub f g l]; omega
/-- the determinant with a row that is a sum -/
theorem D_sum {α : Type} (F : α → Nat → Int) (t : α → Int) (cs : List Nat) (l1 l2 : List (Nat → Int)) : ∀ l : List α,
    D cs (l1 ++ (fun j => sm l fun a => t a * F a j) :: l2) = sm l fun a => t a * D cs (l1 ++ F a :: l2)
  | [] => by
    have h := D_lin (fun _ => 0) (fun _ => 0) 0 0 l2 l1 cs
    have e : (fun j => sm ([] : List α) fun a => t a * F a j) = fun _ : Nat => (0 : Int) * 0 + 0 * 0 := by funext j; rfl
    rw [e, h, sm_nil]
    omega
  | a :: l => by
    have h := D_lin (F a) (fun j => sm l fun a => t a * F a j) (t a) 1 l2 l1 cs
    have e : (fun j => sm (a :: l) fun a => t a * F a j) = fun j => t a * F a j + 1 * sm l fun a => t a * F a j := by funext j; rw [sm_cons]; omega
    rw [e, h, D_sum F t cs l1 l2 l, sm_cons]
    omega
theorem D_scale (a : Nat → Int) (x : Int) (cs : List Nat) (l1 l2 : List (Nat → Int)) : D cs (l1 ++ (fun j => x * a j) :: l2) = x * D cs (l1 ++ a :: l2) := by
  have h := D_lin a a x 0 l2 l1 cs
  have e : (fun j => x * a j + 0 * a j) = fun j => x * a j := by funext j; omega
  rw [e] at h
  omega
/-- Cramer: a multiple of the row v is the sum of the rows of a list; v in the place of one of them -/
theorem cramer {F : Int → Nat → Int} {t : Int → Int} {v : Nat → Int} {u : Int} {l1 l2 : List Int} {c : Int} (cs : List Nat)
    (h : ∀ j, u * v j = sm (l1 ++ c :: l2) fun a => t a * F a j) : u * D cs (l1.map F ++ v :: l2.map F) = t c * D cs ((l1 ++ c :: l2).map F) := by
  rw [← D_scale v u, show (fun j => u * v j) = (fun j => sm (l1 ++ c :: l2) fun a => t a * F a j) from funext h, D_sum F t, sm_append, sm_cons]
  have z1 : sm l1 (fun a => t a * D cs (l1.map F ++ F a :: l2.map F)) = 0 := sm_zero fun a ha => by
    obtain ⟨x, y, rfl⟩ := List.append_of_mem ha
    have := D_twice cs (F a) (x.map F) (y.map F) (l2.map F)
    rw [List.map_append, List.map_cons, this]
    omega
  have z2 : sm l2 (fun a => t a * D cs (l1.map F ++ F a :: l2.map F)) = 0 := sm_zero fun a ha => by
    obtain ⟨x, y, rfl⟩ := List.append_of_mem ha
    have := D_twice cs (F a) (l1.map F) (x.map F) (y.map F)
    rw [List.map_append, List.map_cons]
    have e : List.map F l1 ++ F a :: (List.map F x ++ F a :: List.map F y) = List.map F l1 ++ F a :: List.map F x ++ F a :: List.map F y := by simp
    rw [e, this]
    omega
  rw [z1, z2, List.map_append, List.map_cons]
  omega
/-! K24M: ### sums and permutations -/
theorem sm_perm {α : Type} (f : α → Int) {l l' : List α} (p : l.Perm l') : sm l f = sm l' f := by
  induction p with
  | nil => rfl
  | cons x _ ih => rw [sm_cons, sm_cons, ih]
  | swap x y l => rw [sm_cons, sm_cons, sm_cons, sm_cons]; omega
  | trans _ _ h1 h2 => rw [h1, h2]
/-! K24M: ### lowest terms -/
def sg (b : Int) : Int := if b < 0 then -1 else 1
def norm (a b : Int) : Int × Int := (a / ((Int.gcd a b : Int) * sg b), b / ((Int.gcd a b : Int) * sg b))
theorem sg_pos {b : Int} (h : 0 < b) : sg b = 1 := if_neg (by omega)
theorem sg_neg {b : Int} (h : b < 0) : sg b = -1 := if_pos h
theorem sg_mul {a b : Int} (ha : a ≠ 0) (hb : b ≠ 0) : sg (a * b) = sg a * sg b := by
  rcases Int.lt_trichotomy a 0 with h | h | h
  · rcases Int.lt_trichotomy b 0 with k | k | k
    · rw [sg_neg h, sg_neg k, sg_pos (Int.mul_pos_of_neg_of_neg h k)]; decide
    · exact absurd k hb
    · rw [sg_neg h, sg_pos k, sg_neg (Int.mul_neg_of_neg_of_pos h k)]; decide
  · exact absurd h ha
  · rcases Int.lt_trichotomy b 0 with k | k | k
    · rw [sg_pos h, sg_neg k, sg_neg (Int.mul_neg_of_pos_of_neg h k)]; decide
    · exact absurd k hb
    · rw [sg_pos h, sg_pos k, sg_pos (Int.mul_pos h k)]; decide
theorem abs_sg (a : Int) : (a.natAbs : Int) * sg a = a := by
  unfold sg
  split <;> omega
theorem gs_ne {a b : Int} (hb : b ≠ 0) : (Int.gcd a b : Int) * sg b ≠ 0 := by
  have : Int.gcd a b ≠ 0 := fun z => hb (Int.gcd_eq_zero_iff.mp z).2
  unfold sg
  split <;> omega
theorem gs_left (a b : Int) : (Int.gcd a b : Int) * sg b ∣ a := by
  have h : (Int.gcd a b : Int) ∣ a := Int.gcd_dvd_left ..
  unfold sg
  split
  · rw [Int.mul_neg, Int.mul_one]; exact Int.neg_dvd.mpr h
  · rw [Int.mul_one]; exact h
theorem gs_right (a b : Int) : (Int.gcd a b : Int) * sg b ∣ b := by
  have h : (Int.gcd a b : Int) ∣ b := Int.gcd_dvd_right ..
  unfold sg
  split
  · rw [Int.mul_neg, Int.mul_one]; exact Int.neg_dvd.mpr h
  · rw [Int.mul_one]; exact h
theorem cancel_div {k a f : Int} (hk : k ≠ 0) (hf : f ≠ 0) (h : f ∣ a) : k * a / (k * f) = a / f := by
  obtain ⟨q, rfl⟩ := h
  rw [← Int.mul_assoc, Int.mul_ediv_cancel_left _ (Int.mul_ne_zero hk hf), Int.mul_ediv_cancel_left _ hf]
theorem norm_scale {a b k : Int} (hk : k ≠ 0) (hb : b ≠ 0) : norm (k * a) (k * b) = norm a b := by
  have e : ((Int.gcd (k * a) (k * b) : Nat) : Int) * sg (k * b) = k * ((Int.gcd a b : Int) * sg b) := by
    rw [Int.gcd_mul_left, sg_mul hk hb, Int.natCast_mul]
    have h := abs_sg k
    calc (k.natAbs : Int) * (Int.gcd a b : Int) * (sg k * sg b) = ((k.natAbs : Int) * sg k) * ((Int.gcd a b : Int) * sg b) := by grind
      _ = k * ((Int.gcd a b : Int) * sg b) := by rw [h]
  unfold norm
  rw [e, cancel_div hk (gs_ne hb) (gs_left a b), cancel_div hk (gs_ne hb) (gs_right a b)]
/-- equal quotients have equal lowest terms -/
theorem norm_eq {a b c d : Int} (hb : b ≠ 0) (hd : d ≠ 0) (h : a * d = c * b) : norm a b = norm c d := by
  rw [← norm_scale (a := a) hd hb, ← norm_scale (a := c) hb hd, Int.mul_comm d a, h, Int.mul_comm c b, Int.mul_comm d b]
theorem pos_right {g q : Int} (hg : 0 < g) (h : 0 < g * q) : 0 < q := by
  rcases Int.lt_trichotomy q 0 with k | k | k
  · have := Int.mul_neg_of_pos_of_neg hg k
    omega
  · rw [k, Int.mul_zero] at h
    omega
  · exact k
theorem norm_bottom {a b : Int} (hb : b ≠ 0) : 0 < (norm a b).2 ∧ (norm a b).2 ∣ b := by
  obtain ⟨q, hq⟩ := gs_right a b
  have hf := gs_ne (a := a) hb
  have e : (norm a b).2 = q := by
    show b / ((Int.gcd a b : Int) * sg b) = q
    generalize (Int.gcd a b : Int) * sg b = f at hq hf
    rw [hq, Int.mul_ediv_cancel_left _ hf]
  rw [e]
  have hg : 0 < (Int.gcd a b : Int) := by
    have : Int.gcd a b ≠ 0 := fun z => hb (Int.gcd_eq_zero_iff.mp z).2
    omega
  refine ⟨?_, ⟨(Int.gcd a b : Int) * sg b, by rw [Int.mul_comm]; exact hq⟩⟩
  rcases Int.lt_trichotomy b 0 with k | k | k
  · rw [sg_neg k] at hq
    generalize (Int.gcd a b : Int) = g at hq hg
    have : g * q > 0 := by
      have e2 : g * -1 * q = -(g * q) := by grind
      omega
    exact pos_right hg this
  · exact absurd k hb
  · rw [sg_pos k, Int.mul_one] at hq
    generalize (Int.gcd a b : Int) = g at hq hg
    exact pos_right hg (by omega)
theorem norm_top_zero {a b : Int} (hb : b ≠ 0) : (norm a b).1 = 0 ↔ a = 0 := by
  have hd := gs_left a b
  have hf := gs_ne (a := a) hb
  show a / ((Int.gcd a b : Int) * sg b) = 0 ↔ a = 0
  generalize (Int.gcd a b : Int) * sg b = f at hd hf
  obtain ⟨q, rfl⟩ := hd
  rw [Int.mul_ediv_cancel_left _ hf]
  constructor
  · intro z; rw [z, Int.mul_zero]
  · intro z; exact (Int.mul_eq_zero.mp z).resolve_left hf
/-! K24M: ### the system of a tableau: columns, entries, unit -/
/-- u times the row of p is the sum of its entries times the columns' rows -/
def Rel (F : Int → Nat → Int) (cols : List Int) (E : Int → Int → Int) (u : Int) (p : Int) : Prop := ∀ j, u * F p j = sm cols fun c => E p c * F c j
structure Sys (n : Nat) (F : Int → Nat → Int) (cols basis : List Int) (E : Int → Int → Int) (u : Int) : Prop where
  nd : cols.Nodup
  pos : 0 < u
  dj : ∀ p ∈ basis, p ∉ cols
  det : ∃ s : Int, (s = 1 ∨ s = -1) ∧ D (List.range n) (cols.map F) = s * u
  rel : ∀ p ∈ basis, Rel F cols E u p
/-- the new entries of a row o other than the one that leaves; of the row that comes -/
def exO (E : Int → Int → Int) (u P Q o c : Int) : Int := if c = P then sg (E P Q) * E o Q else sg (E P Q) * (E o c * E P Q - E o Q * E P c) / u
def exQ (E : Int → Int → Int) (u P Q c : Int) : Int := if c = P then sg (E P Q) * u else -sg (E P Q) * E P c
def exE (E : Int → Int → Int) (u P Q o c : Int) : Int := if o = Q then exQ E u P Q c else exO E u P Q o c
theorem sg_cases (a : Int) : sg a = 1 ∨ sg a = -1 := by unfold sg; split <;> omega
theorem sg_sq (a : Int) : sg a * sg a = 1 := by rcases sg_cases a with h | h <;> rw [h] <;> decide
theorem sg_self (a : Int) : sg a * a = (a.natAbs : Int) := by unfold sg; split <;> omega
theorem cancel_left {u a b : Int} (hu : u ≠ 0) (h : u * a = u * b) : a = b := Int.eq_of_mul_eq_mul_left hu h
section
variable {n : Nat} {F : Int → Nat → Int} {l1 l2 basis : List Int} {E : Int → Int → Int} {u P Q : Int}
theorem nodup_mid {c : Int} (h : (l1 ++ c :: l2).Nodup) : c ∉ l1 ∧ c ∉ l2 ∧ (l1 ++ l2).Nodup := by
  have q := (List.perm_middle (a := c) (l₁ := l1) (l₂ := l2)).nodup_iff.mp h
  obtain ⟨q1, q2⟩ := List.nodup_cons.mp q
  rw [List.mem_append] at q1
  exact ⟨fun z => q1 (.inl z), fun z => q1 (.inr z), q2⟩
theorem sm_mid {α : Type} (l1 l2 : List α) (c : α) (f : α → Int) : sm (l1 ++ c :: l2) f = sm (l1 ++ l2) f + f c := by
  rw [sm_append, sm_cons, sm_append]
  omega
/-- the determinant behind the exchange -/
theorem Sys.det_new (S : Sys n F (l1 ++ Q :: l2) basis E u) (hP : P ∈ basis) : ∃ s : Int, (s = 1 ∨ s = -1) ∧ D (List.range n) (l1.map F ++ F P :: l2.map F) = s * E P Q := by
  obtain ⟨s, hs, hd⟩ := S.det
  refine ⟨s, hs, ?_⟩
  have h := cramer (F := F) (t := E P) (v := F P) (u := u) (c := Q) (List.range n) (S.rel P hP)
  rw [hd] at h
  have hu : u ≠ 0 := by have := S.pos; omega
  refine cancel_left hu (h.trans ?_)
  grind
/-- the exchange divides exactly -/
theorem Sys.divides (S : Sys n F (l1 ++ Q :: l2) basis E u) (hP : P ∈ basis) {o c : Int} (ho : o ∈ basis) (hz : E P Q ≠ 0) (hc : c ∈ l1 ++ l2) : u ∣ E o c * E P Q - E o Q * E P c := by
  obtain ⟨s, hs, hd⟩ := S.det_new (P := P) hP
  obtain ⟨n1, n2, n3⟩ := nodup_mid S.nd
  have hPc : P ∉ l1 ++ l2 := fun z => S.dj P hP (by
    rcases List.mem_append.mp z with z | z
    · exact List.mem_append_left _ z
    · exact List.mem_append_right _ (List.mem_cons_of_mem _ z))
  have hPc' : c ≠ P := fun z => hPc (z ▸ hc)
  -- the row of o over the new columns
  have key : ∀ j, E P Q * u * F o j = sm (l1 ++ P :: l2) fun a => (if a = P then E o Q * u else E o a * E P Q - E o Q * E P a) * F a j := by
    intro j
    have r1 := S.rel o ho j
    have r2 := S.rel P hP j
    rw [sm_mid] at r1 r2
    rw [sm_mid, if_pos rfl]
    have e : (sm (l1 ++ l2) fun a => (if a = P then E o Q * u else E o a * E P Q - E o Q * E P a) * F a j) = E P Q * (sm (l1 ++ l2) fun a => E o a * F a j) - E o Q * (sm (l1 ++ l2) fun a => E P a * F a j) := by
      rw [← sm_mul, ← sm_mul, ← sm_sub]
      refine sm_congr fun a ha => ?_
      rw [if_neg (fun z : a = P => hPc (z ▸ ha))]
      grind
    rw [e]
    grind
  have hc' : c ∈ l1 ++ P :: l2 := by
    rcases List.mem_append.mp hc with z | z
    · exact List.mem_append_left _ z
    · exact List.mem_append_right _ (List.mem_cons_of_mem _ z)
  obtain ⟨m1, m2, hm⟩ := List.append_of_mem hc'
  rw [hm] at key
  have h := cramer (F := F) (v := F o) (u := E P Q * u) (c := c) (List.range n) key
  rw [← hm, if_neg hPc'] at h
  have hd' : D (List.range n) ((l1 ++ P :: l2).map F) = s * E P Q := by rw [← hd, List.map_append, List.map_cons]
  rw [hd'] at h
  refine ⟨s * D (List.range n) (m1.map F ++ F o :: m2.map F), ?_⟩
  refine cancel_left hz ?_
  have hs2 : s * s = 1 := by rcases hs with rfl | rfl <;> decide
  grind
theorem Sys.exch (S : Sys n F (l1 ++ Q :: l2) basis E u) (hP : P ∈ basis) (hz : E P Q ≠ 0) : Sys n F (l1 ++ l2 ++ [P]) (Q :: basis.filter fun o => decide (o ≠ P)) (exE E u P Q) ((E P Q).natAbs : Int) := by
  obtain ⟨n1, n2, n3⟩ := nodup_mid S.nd
  have hPc : P ∉ l1 ++ l2 := fun z => S.dj P hP (by
    rcases List.mem_append.mp z with z | z
    · exact List.mem_append_left _ z
    · exact List.mem_append_right _ (List.mem_cons_of_mem _ z))
  have hQ : Q ∈ l1 ++ Q :: l2 := List.mem_append_right _ (List.mem_cons_self ..)
  have hQP : Q ≠ P := fun z => S.dj P hP (z ▸ hQ)
  have hu : u ≠ 0 := by have := S.pos; omega
  have hQl : Q ∉ l1 ++ l2 := fun z => by
    rcases List.mem_append.mp z with z | z
    · exact n1 z
    · exact n2 z
  refine ⟨?_, by omega, ?_, ?_, ?_⟩
  · have q := (List.perm_append_singleton P (l1 ++ l2)).nodup_iff
    rw [q]
    exact List.nodup_cons.mpr ⟨hPc, n3⟩
  · intro p hp hm
    rcases List.mem_append.mp hm with z | z
    · rcases List.mem_cons.mp hp with rfl | hp
      · exact hQl z
      · exact S.dj p (List.mem_filter.mp hp).1 (by
          rcases List.mem_append.mp z with z | z
          · exact List.mem_append_left _ z
          · exact List.mem_append_right _ (List.mem_cons_of_mem _ z))
    · have e := List.mem_singleton.mp z
      rcases List.mem_cons.mp hp with h | hp
      · exact hQP (h ▸ e)
      · exact (of_decide_eq_true (List.mem_filter.mp hp).2) e
  · obtain ⟨s, hs, hd⟩ := S.det_new (P := P) hP
    have pm : ((l1 ++ l2 ++ [P]).map F).Perm (l1.map F ++ F P :: l2.map F) := by
      have h1 : (l1 ++ l2 ++ [P]).Perm (l1 ++ P :: l2) := (List.perm_append_singleton P (l1 ++ l2)).trans List.perm_middle.symm
      have h2 := h1.map F
      rwa [List.map_append (l₁ := l1), List.map_cons] at h2
    obtain ⟨t, ht, hp⟩ := D_perm pm
    refine ⟨t * s * sg (E P Q), ?_, ?_⟩
    · rcases hs with rfl | rfl <;> rcases ht with rfl | rfl <;> rcases sg_cases (E P Q) with h | h <;> rw [h] <;> decide
    · rw [hp, hd, ← sg_self]
      have := sg_sq (E P Q)
      grind
  · intro p hp j
    have rP := S.rel P hP j
    rw [sm_mid] at rP
    rw [sm_append, sm_cons, sm_nil, ← sg_self]
    rcases List.mem_cons.mp hp with rfl | hp
    · -- the row that comes
      have e : (sm (l1 ++ l2) fun c => exE E u P p p c * F c j) = -sg (E P p) * (sm (l1 ++ l2) fun c => E P c * F c j) := by
        rw [← sm_mul]
        refine sm_congr fun a ha => ?_
        show exE E u P p p a * F a j = _
        unfold exE exQ
        rw [if_pos rfl, if_neg (fun z : a = P => hPc (z ▸ ha)), Int.mul_assoc]
      rw [e]
      unfold exE exQ
      rw [if_pos rfl, if_pos rfl]
      grind
    · have hpB := (List.mem_filter.mp hp).1
      have hpQ : p ≠ Q := fun z => S.dj p hpB (z ▸ hQ)
      have rp := S.rel p hpB j
      rw [sm_mid] at rp
      refine cancel_left hu ?_
      have e : u * (sm (l1 ++ l2) fun c => exE E u P Q p c * F c j) = sg (E P Q) * (E P Q * (sm (l1 ++ l2) fun c => E p c * F c j) - E p Q * (sm (l1 ++ l2) fun c => E P c * F c j)) := by
        rw [← sm_mul, ← sm_mul, ← sm_mul, ← sm_sub, ← sm_mul]
        refine sm_congr fun a ha => ?_
        show u * (exE E u P Q p a * F a j) = _
        unfold exE exO
        rw [if_neg hpQ, if_neg (fun z : a = P => hPc (z ▸ ha))]
        obtain ⟨q, hq⟩ := S.divides hP hpB hz ha
        rw [hq, show sg (E P Q) * (u * q) = u * (sg (E P Q) * q) by grind, Int.mul_ediv_cancel_left _ hu]
        have : u * (sg (E P Q) * q * F a j) = sg (E P Q) * ((u * q) * F a j) := by grind
        rw [this, ← hq]
        grind
      have e2 : exE E u P Q p P = sg (E P Q) * E p Q := by
        unfold exE exO
        rw [if_neg hpQ, if_pos rfl]
      rw [Int.mul_add, e, e2]
      grind
/-- an entry, by the determinants at any sequence of the columns -/
theorem Sys.entry {cols : List Int} (S : Sys n F cols basis E u) {p : Int} (hp : p ∈ basis) {m1 m2 : List Int} {c : Int} (pm : (m1 ++ c :: m2).Perm cols) :
    E p c * D (List.range n) ((m1 ++ c :: m2).map F) = u * D (List.range n) (m1.map F ++ F p :: m2.map F) ∧ ∃ s : Int, (s = 1 ∨ s = -1) ∧ D (List.range n) ((m1 ++ c :: m2).map F) = s * u := by
  refine ⟨(cramer (F := F) (t := E p) (v := F p) (u := u) (c := c) (List.range n) fun j => ?_).symm, ?_⟩
  · rw [S.rel p hp j, sm_perm _ pm]
  · obtain ⟨s, hs, hd⟩ := S.det
    obtain ⟨t, ht, h⟩ := D_perm (pm.map F)
    refine ⟨t * s, ?_, by rw [h, hd, Int.mul_assoc]⟩
    rcases hs with rfl | rfl <;> rcases ht with rfl | rfl <;> decide
end
end M
end K24
/-! K24X: An own error whose __init__ hands a text to super().__init__ and keeps one field. -/
namespace K24
open PySem PySem.Spec PyProof.Rows L2 PySem.W
/-- what the top has written of such a class, its __init__ standing at st -/
structure ErrC (P : Program) (K : Frag) (x qual : Str) (st : Stmt) (C : Addr) : Prop where
  T : OexC K C
  all : ∃ (fI cc cda : Addr) (oc cl ccl kV doc pm ct : Value) (od cld cdd an : Option Addr) (osl csl ccs : Array (Option Value)) (vs : Array Value) (file : Str) (tf : Tok),
    K.lookup fI = some ⟨oc, od, .func (ksFn "__init__" qual (defArgs st) (defBody st) (defScope st) .none kV doc pm an (.ref cda) ct cc), osl⟩ ∧ codeIn K (.ref cda) qual = true ∧
    K.lookup cda = some ⟨ccl, cdd, .fields vs, ccs⟩ ∧ vs[2]? = some (.str file tf) ∧ ((P.main.file : Str) == file) = true ∧ K.lookup cc = some ⟨cl, cld, .cell (some (.ref C)), csl⟩ ∧
    findIn K (.ref C) "__init__" = some (some (.ref fI)) ∧ typeIn K (.ref fI) = some (.type "function")
  self : mroIn K C (.ref C) = some true
  sup : nsIn K mainGlobals "super" = some none
  opq : nsIn K cStatics "thirdparty.any" = some none
  up : ks_superIn K C C "__init__" = some (some (.builtin "ValueError.__init__"))
  sub : subIn K (.ref C) (.type "ValueError") = some true
  noW : findIn K (.ref C) "word" = some none
/-- how the call super().__init__('..') is read -/
def MetEq (env : Env) (p0 p1 p2 p3 p4 : Pos) (j : Nat) (m : Str) (pl : Sem Bool) : Prop :=
  eval (.Call (.Attribute (.Call (.Name "super" p0) [] [] p1) "__init__" p2) [.Constant (.str m) j p3] [] p4) env = (do
      let ov ← attributeBase (.Call (.Name "super" p0) [] [] p1) "__init__" env (eval (.Call (.Name "super" p0) [] [] p1) env)
      standAt p2.atName
      let (f, first) ← holding [ov] (getMethod ov "__init__" pl)
      callWith p4 f first (backTo p4 (starEach [.Constant (.str m) j p3] env)) [])
/-- the shape of such an __init__ -/
structure ErrS (P : Program) (st : Stmt) : Prop where
  body : ∃ p0 p1 p2 p3 p4 p5 q1 q2 q3 q4 j m, defBody st = [.Expr (.Call (.Attribute (.Call (.Name "super" p0) [] [] p1) "__init__" p2) [.Constant (.str m) j p3] [] p4) p5, .Assign [.Attribute (.Name "self" q1) "word" q2] (.Name "word" q3) q4] ∧ ∀ env, ∃ pl, MetEq env p0 p1 p2 p3 p4 j m pl
  args : ∃ ar, ((defArgs st).posonlyargs ++ (defArgs st).args).head? = some ar ∧ ar.arg = ("self" : Str)
  nocell : ∀ y ∈ (defScope st).names, y.2 ≠ .cell
  free : ∀ y ∈ (defScope st).names, y.2 = .free → y.1 = ("__class__" : Str)
  nS : (defScope st).names.lookup ("self" : Str) = some .local
  nW : (defScope st).names.lookup ("word" : Str) = some .local
  nC : (defScope st).names.lookup ("__class__" : Str) = some .free
  nU : (defScope st).names.lookup ("super" : Str) = some .globalImplicit
  co : (defScope st).isCoroutine = false
  gen : (defScope st).isGenerator = false
  kind : (defScope st).kind = .function
  bind : ∀ (qual : Str) (kV doc pm : Value) (an : Option Addr) (cdv ct : Value) (cc : Addr) (us : List Value), us.length = 2 → bindArgs (ksFn "__init__" qual (defArgs st) (defBody st) (defScope st) .none kV doc pm an cdv ct cc) ⟨us, []⟩ = pure (([("self" : Str), "word"] : List Str).zip us)
  top : (P.main.scope.names.lookup ("super" : Str)).isSome = false
/-- the context of that __init__ -/
abbrev erEnv (qual : Str) (sc : Scope) (L f : Addr) (cda cc : Addr) : Env := ksEnv qual sc L f (.ref cda) cc
def erCx (CX : CXT) (P : Program) (w : World) (K : Frag) (mg : Str → Option Value) (base : Heap) (A : Around) (outer : List Env) (s : Shared) (H : Hp) (E : XK) (qual : Str) (sc : Scope) (f cda cc : Addr) : Cx where
  prog := P
  w := w
  K := K
  mg := mg
  base := base
  A := A.deeper (erEnv qual sc s.heap.objs.size f cda cc)
  N := ["self", "word"]
  s_0 := s
  H_0 := H
  env := erEnv qual sc s.heap.objs.size f cda cc
  outer := outer
  stack := erEnv qual sc s.heap.objs.size f cda cc :: outer
  ex := []
  fn := fun _ => false
  calm := true
  pn := []
  xe := fun e s' => wpAny (model P w) (A.deeper (erEnv qual sc s.heap.objs.size f cda cc)) (leaving (erEnv qual sc s.heap.objs.size f cda cc) e) (fun _ s'' => CX outer H s E e s'') (fun e' s'' => CX outer H s E e' s'') s'
section
variable {CX : CXT} {P : Program} {w : World} {K : Frag} {mg : Str → Option Value} {base : Heap} {A : Around} {outer : List Env} {s : Shared} {H : Hp} {E : XK} {qual : Str} {st : Stmt} {f cda cc C : Addr}
theorem er_start {v1 v2 : V} {u1 u2 : Value} {h0 : Heap} {tk : Nat} (S : ErrS P st) (e0 : Env0 P w K mg base A outer s H) (hd : A.handled = none) (r1 : RelV v1 u1) (r2 : RelV v2 u2)
    (hcc : ∃ o, K.lookup cc = some o ∧ o.data = .cell (some (.ref C)))
    (hns : h0.Ns s.heap.objs.size fun y => ([(("self" : Str), u1), (("word" : Str), u2)] : List (Str × Value)).reverse.lookup y) (kp : ∀ b o, s.heap.get? b = some o → h0.get? b = some o) :
    Inv (erCx CX P w K mg base A outer s H E qual (defScope st) f cda cc) [] [some v1, some v2] H { s with heap := h0, toks := tk } := by
  obtain ⟨oc, lc, dc⟩ := hcc
  have bc := e0.bs cc oc (e0.mod.kin cc oc lc)
  have cl : ∀ {x : Str} {c : Addr}, ([(("__class__" : Str), cc)] : List (Str × Addr)).lookup x = some c → x = "__class__" ∧ c = cc := fun {x c} e => by
    by_cases h : x = ("__class__" : Str)
    · subst h
      rw [List.lookup_cons_self] at e
      exact ⟨rfl, (Option.some.inj e).symm⟩
    · have : (x == ("__class__" : Str)) = false := by simpa using h
      simp [List.lookup, this] at e
  have noA : ∀ b : Addr, b ∉ ([] : List Addr) := fun b z => nomatch z
  refine ⟨⟨e0.mod, S.kind, rfl, rfl, Nat.le_refl _, fun x y c e1 e2 => (cl e1).1.trans (cl e2).1.symm, fun x hx => ?_, fun x c z _ => (Bool.noConfusion (show false = true from z)), fun _ => hd, Around.frames_deeper e0.frames, .inr ⟨rfl, rfl⟩, fun b z => absurd z (noA b), e0.bs, e0.bsz, fun b _ _ => noA b,
      fun b z => absurd z (noA b), e0.funs, e0.frf⟩, rfl, e0.bare, Un.kept kp, ⟨_, hns, fun i x v e1 e2 e3 => ?_⟩, fun x c e => ?_, e0.hok.fresh (Nat.le_refl _), fun x c e => ?_, fun q hq => absurd (show q ∈ ([] : List (Addr × Obj)) ++ [] from hq) (by simp), e0.hok.kept kp, rfl⟩
  · have hx : (defScope st).names.lookup x = some .cell ∨ (defScope st).names.lookup x = some .free := hx
    rcases hx with hx | hx
    · exact absurd rfl (S.nocell _ (PySem.mem_of_lookup hx))
    · have e := S.free _ (PySem.mem_of_lookup hx) rfl
      have e : x = "__class__" := e
      subst e
      exact ⟨cc, by rfl⟩
  · match i, e1, e2 with
    | 0, e1, e2 =>
      have e1 := Option.some.inj e1
      subst e1
      have e2 := Option.some.inj (Option.some.inj e2)
      subst e2
      exact ⟨u1, r1, .inl ⟨S.nS, by rfl⟩⟩
    | 1, e1, e2 =>
      have e1 := Option.some.inj e1
      subst e1
      have e2 := Option.some.inj (Option.some.inj e2)
      subst e2
      exact ⟨u2, r2, .inl ⟨S.nW, by rfl⟩⟩
    | n + 2, e1, e2 => nomatch (show (none : Option Str) = some x from e1)
  · obtain ⟨_, rfl⟩ := cl e
    exact ⟨_, oc, kp _ _ bc.1, dc⟩
  · obtain ⟨_, rfl⟩ := cl e
    exact bc.2
/-- the method wrapper over ValueError.__init__ is called -/
theorem er_call {X : Cx} {pins : List (Addr × Obj)} {σ : L2.St} {H : Hp} {s : Shared} {a C u : Addr} {us : List Value} {Q : Value → Shared → Prop} (T : OexC X.K C) (I : Inv X pins σ H s) (e : H a = some (exo a C none)) (hu : s.heap.get? u = some (kxs_mw "ValueError.__init__" a)) (hl : us.length ≤ sizeLine)
    (h : ∀ s', Inv X pins σ H s' → Q .none s') : wpAny (model X.prog X.w) X.A (call (.ref u) us) Q X.xe s := by
  obtain ⟨nm, q, N, bs, bm, sn, sub, ab, col, dd, k0, k1, k2, k3, k5, hC, hbm⟩ := T.cls
  obtain ⟨t1, ho⟩ := exo_at I.hok e
  obtain ⟨hp, g, d, t, os⟩ := s
  refine wpAny_call (codeAny_of_tree ?_)
  show wpAny _ X.A.in1 (callAny (.ref u) ⟨us, []⟩) _ _ _
  simp only [callAny]
  refine wpAny_bind (wpAny_load hu ?_)
  simp only [kxs_mw, show (Value.type "method-wrapper" == Value.type "method" || Value.type "method-wrapper" == Value.type "builtin_function_or_method" || Value.type "method-wrapper" == Value.type "method-wrapper") = true by decide, if_true]
  refine KFB.if_so (by decide) ?_
  refine wpAny_bind (check_bound_init F.excBase_ValueError.toExcCallFacts (I.kIn _ _ hC) ho rfl ?_)
  refine wpAny_bind (wpAny_pure (wpAny_pure ?_))
  refine ⟨Code.quiet_builtin _ (by decide +kernel), codeAny_builtin F.excBase_ValueError.initEntry ?_⟩
  rw [Around.under_plainId F.excBase_ValueError.init.plain _]
  wp_walk
  show Q .none _
  have J := I.write (t' := t) (x := a) (e := a) (o := exo a C none) (h' := (hp.push { cls := Value.type "tuple", data := Data.seq us.toArray }).update a (Obj.mapFields fun x => x.setIfInBounds 0 (Value.ref hp.objs.size)))
    (by rw [e]; exact True.intro) (.inl rfl) (fun b o hb hbo => (Heap.get?_update_other _ _ (Ne.symm hb)).trans (Heap.get?_push_of_some _ hbo)) ⟨_, (Heap.get?_update_self _ (Heap.get?_push_of_some _ ho) rfl)⟩
    (exo_ok (t1 := hp.objs.size) ((Heap.get?_update_self _ (Heap.get?_push_of_some _ ho) rfl).trans (by rfl)))
  have eu : upd H a (exo a C none) = H := by
    funext b
    by_cases hb : b = a
    · rw [hb, upd_same, e]
    · rw [upd_ne hb]
  rw [eu] at J
  exact h _ J
/-- the promise of such an __init__ -/
def spErr (C : Addr) : Sp := fun vs H Q _ => ∃ (a : Addr) (v : V), vs = [.ref a, v] ∧ H a = some (exo a C none) ∧ ∀ dx, H dx = none → dx ≠ a → Q .non (upd (upd H dx (exd dx [("word", v)])) a (exo a C (some dx)))
theorem er_body {X : Cx} {st : Stmt} {C a cda cc fI : Addr} {qual : Str} {L : Addr} {body : List Stmt} {fd : FuncData} {oc cl ccl : Value} {od cld cdd : Option Addr} {osl csl ccs : Array (Option Value)} {vs0 : Array Value} {file : Str} {tf : Tok} {ar : Arg} {v : V}
    {p0 p1 p2 p3 p4 p5 q1 q2 q3 q4 : Pos} {j : Nat} {m : Str} {H : Hp} {s : Shared} {D : Ends} {pl : Sem Bool}
    (he : MetEq X.env p0 p1 p2 p3 p4 j m pl)
    (hN : X.N = ([("self" : Str), "word"] : List Str)) (hE : X.env = erEnv qual (defScope st) L fI cda cc) (nS : (defScope st).names.lookup ("self" : Str) = some .local) (nW : (defScope st).names.lookup ("word" : Str) = some .local) (nC : (defScope st).names.lookup ("__class__" : Str) = some .free)
    (nU : (defScope st).names.lookup ("super" : Str) = some .globalImplicit) (top : (X.prog.main.scope.names.lookup ("super" : Str)).isSome = false) (kind : (defScope st).kind = .function)
    (lk : X.K.lookup fI = some ⟨oc, od, .func fd, osl⟩) (har : (fd.params.posonlyargs ++ fd.params.args).head? = some ar) (harn : ar.arg = ("self" : Str)) (lcd : X.K.lookup cda = some ⟨ccl, cdd, .fields vs0, ccs⟩) (hvs : vs0[2]? = some (.str file tf)) (hfile : ((X.prog.main.file : Str) == file) = true)
    (lcc : X.K.lookup cc = some ⟨cl, cld, .cell (some (.ref C)), csl⟩) (T : OexC X.K C) (hself : mroIn X.K C (.ref C) = some true) (hsup : nsIn X.K mainGlobals "super" = some none) (opq : nsIn X.K cStatics "thirdparty.any" = some none)
    (up : ks_superIn X.K C C "__init__" = some (some (.builtin "ValueError.__init__"))) (sub : subIn X.K (.ref C) (.type "ValueError") = some true) (noW : findIn X.K (.ref C) "word" = some none)
    (I : L2.Inv X [] [some (.ref a), some v] H s) (ha : H a = some (exo a C none)) (k : ∀ dx, H dx = none → dx ≠ a → D.nx [some (.ref a), some v] (upd (upd H dx (exd dx [("word", v)])) a (exo a C (some dx)))) :
    PySem.wpAt (model X.prog X.w) X.A (.func body X.env) (execs [.Expr (.Call (.Attribute (.Call (.Name "super" p0) [] [] p1) "__init__" p2) [.Constant (.str m) j p3] [] p4) p5, .Assign [.Attribute (.Name "self" q1) "word" q2] (.Name "word" q3) q4] X.env) (SP X [] D) X.xe s := by
  obtain ⟨nm, q, N, bs, bm, sn, sb, ab, col, dd, k0, k1, k2, k3, k5, hC, hbm⟩ := id T.cls
  have hcl : clsIn X.K C = some { name := nm, bases := bs, mro := .ref C :: bm, ns := N, qualname := q, hasDict := true, slotNames := sn, subclasses := sb, abstract := ab, collection := col, hasDel := false } := by unfold clsIn; rw [hC] <;> rfl
  obtain ⟨t1, ho⟩ := exo_at I.hok ha
  have KX := I.kIn
  obtain ⟨mb, hmb, hbb⟩ := I.mod.blt
  have hk : X.env.scope.kind = .function := I.ok.kind
  have kS : X.env.kindOf "self" = some .local := by rw [hE]; exact nS
  have kC : X.env.kindOf "__class__" = some .free := by rw [hE]; exact nC
  have kU : X.env.kindOf "super" = some .globalImplicit := by rw [hE]; exact nU
  have iq := I.quiet
  have iq := I.quiet
  refine ks_wpAt_execs_cons (ks_wpAt_Expr_any (ks_wpAt_MethodCall (pl := pl) ?_ he) iq (by rfl))
  have hfu : X.env.func = some fI := by rw [hE]
  have hco : X.env.code = .ref cda := by rw [hE]
  have hcl2 : X.env.cells.lookup ("__class__" : Str) = some cc := by rw [hE]; rfl
  refine ks_wpAt_super_base kU kC (by decide) hfu (KX _ _ lk) rfl har hco (KX _ _ lcd) rfl hvs hfile top ?_
  rw [harn]
  obtain ⟨mL, hnL, hlL⟩ := id I.loc
  obtain ⟨uS, ruS, lookS⟩ := hlL 0 "self" (.ref a) (by rw [hN]; rfl) rfl (.inl kS)
  obtain rfl : uS = Value.ref a := ruS
  have mS : mL "self" = some (.ref a) := by
    rcases lookS with ⟨_, h⟩ | ⟨h, _⟩
    · exact h
    · rw [kS] at h
      rcases h with h | h <;> cases h
  have bU : bootBuiltins "super" = some (.type "super") := by first | boot_by_name | rfl | kernel_rfl
  refine ks_loadName_global hk kU (Calls.loadGlobal_builtin (env := X.env) (by rw [I.ok.glob]; exact I.mod.glob.keeps I.bk) (mg_none_of I.mod.kin I.mod.glob hsup) (by rw [I.ok.blt]; exact hmb.keeps I.bk) ((hbb _ (by decide)).trans bU) ⟨rfl, ?_⟩)
  refine wpAny_loadName_free hk kC hcl2 ⟨_, KX _ _ lcc, rfl⟩ (PySem.wpAny_loadName_local hk kS hnL mS ?_) (by decide)
  obtain ⟨oD, hD1, hD2⟩ : ∃ oD, s.heap.get? C = some oD ∧ oD.data = .cls { name := nm, bases := bs, mro := .ref C :: bm, ns := N, qualname := q, hasDict := true, slotNames := sn, subclasses := sb, abstract := ab, collection := col, hasDel := false } := ⟨_, KX _ _ hC, rfl⟩
  refine ks_wpAny_isType_cls hD1 hD2 ⟨rfl, ?_⟩
  obtain ⟨hp, g, d, t, os⟩ := s
  have hnc : ∀ c, ({ cls := .ref C, dict := none, data := .fields #[.ref t1, .none, .none, .none, .bool false, .none] } : Obj).data ≠ .cls c := fun c z => by cases z
  refine ks_wpAny_call_super hD1 hD2 ho rfl hnc (looks_mroIn KX hself) (fun h1 e1 k1 => ?_)
  -- the super object stands
  have I1 : L2.Inv X [] [some (.ref a), some v] H { heap := h1, gens := g, drawn := d, toks := t, os := os } := I.kept (t' := t) k1
  have KX1 := I1.kIn
  have neC : a ≠ C := fun z => by
    have z1 : hp.get? C = _ := hD1
    have z2 : hp.get? a = _ := ho
    rw [z, z1] at z2
    cases z2
    cases hD2
  have hI : Looks (model X.prog X.w) h1 (isInstance (.ref a) (.type "ValueError")) true :=
    (show Looks (model X.prog X.w) h1 (typeOf (.ref a)) (.ref C) from fun A Q E s k q => wpAny_typeOf_ref (k _ _ (k1 _ _ ho)) q).andThen (looks_subIn KX1 sub)
  refine kxs_getMethod kxs_ValueError e1 (looks_opaque KX1 opq) (l₀ := .ref C :: bm) (fun A Q E s k q => wpAny_bind ((looks_clsIn KX1 hcl) A _ E s k (wpAny_pure q))) rfl KX1 (by unfold ks_superIn at up; rw [hcl] at up; exact up) hI neC (by decide) ?_
  -- the wrapper stands
  have I2 : L2.Inv X [] [some (.ref a), some v] H { heap := h1.push (kxs_mw "ValueError.__init__" a), gens := g, drawn := d, toks := t + 1, os := os } := I1.kept (t' := t + 1) fun b o e => Heap.get?_push_of_some _ e
  have hu0 : (h1.push (kxs_mw "ValueError.__init__" a)).get? h1.objs.size = some (kxs_mw "ValueError.__init__" a) := Heap.get?_push_at rfl rfl
  have I2p := I2.pins_of (pins' := [(h1.objs.size, kxs_mw "ValueError.__init__" a)]) (fun p hp => by
    have e := List.mem_singleton.mp hp
    subst e
    exact ⟨hu0, I1.hok.fresh (Nat.le_refl _), Nat.ne_of_gt I1.lt, I1.nofs (Nat.le_refl _), fun v z => by cases z⟩)
  refine kxs_callWith (i := "ValueError.__init__") (x := a) (by rfl) (PySem.Calls.evalArgs_plain (thn ((pa_cons pe_str pa_nil).run p4 _ _ _ H (fun vs H1 => vs = [.str m] ∧ H1 = H) I2p ⟨rfl, rfl⟩) fun us s3 hs3 => ?_))
  obtain ⟨vs, H1, I3, r3, ev, eH⟩ := hs3
  rw [eH] at I3
  have hu3 := (I3.pin (h1.objs.size, kxs_mw "ValueError.__init__" a) (List.mem_append_right _ (List.mem_singleton.mpr rfl))).1
  have I3' : L2.Inv X [] [some (.ref a), some v] H s3 := I3.pins_of (pins' := []) fun p hp => absurd hp (by simp)
  have lus : us.length ≤ sizeLine := by
    rw [← Paired.length r3, ev]
    show 1 ≤ sizeLine
    decide
  refine ⟨hu3, er_call T I3' ha hu3 lus fun s4 I4 => ?_⟩
  refine PySem.wpAt_of_wpAny ?_
  -- self.word = word
  have hN1 : X.N[1]? = some ("word" : Str) := by rw [hN]; rfl
  have hN0 : X.N[0]? = some ("self" : Str) := by rw [hN]; rfl
  have vW : Vis X.env.scope "word" := .inl (by rw [hE]; exact nW)
  have vS : Vis X.env.scope "self" := .inl kS
  exact (pss_one (ps_ost (pe_var (i := 0) hN0 vS) (pe_var (i := 1) hN1 vW) (by rfl))).run [] s4 _ H D I4 ⟨v, rfl, .ref a, rfl, a, C, rfl, T, noW, .inl ⟨ha, k⟩⟩
theorem ok_err {x : Str} {P : Program} {w : World} {K : Frag} {mg : Str → Option Value} {base : Heap} {CX : CXT} {qual : Str} {st : Stmt} {C : Addr} (S : ErrS P st) (R : ErrC P K x qual st C) :
    ∃ (fI : Addr) (fd : FuncData), FnOk P w K mg base CX 1 fI fd ["self", "word"] (spErr C) ∧ findIn K (.ref C) "__init__" = some (some (.ref fI)) ∧ typeIn K (.ref fI) = some (.type "function") ∧ Binds K fd ["self", "word"] [] := by
  obtain ⟨fI, cc, cda, oc, cl, ccl, kV, doc, pm, ct, od, cld, cdd, an, osl, csl, ccs, vs0, file, tf, lk, hcd, lcd, hvs, hfile, lcc, iC, tI⟩ := R.all
  refine ⟨fI, ksFn "__init__" qual (defArgs st) (defBody st) (defScope st) .none kV doc pm an (.ref cda) ct cc, ⟨fun vs H Q E h => ?_, fun A outer s H args us vs Q E hr e0 hb r h => ?_⟩, iC, tI, .all (S.bind qual kV doc pm an (.ref cda) ct cc)⟩
  · obtain ⟨a, v, rfl, _⟩ := h
    rfl
  · obtain ⟨a, v, rfl, ha, k⟩ := h
    obtain ⟨p0, p1, p2, p3, p4, p5, q1, q2, q3, q4, j, m, hbody, hm⟩ := S.body
    obtain ⟨ar, har, harn⟩ := S.args
    have KX : K.In s.heap := e0.mod.kin.keeps fun b o e => (e0.bs b o e).1
    have lim : s.heap.NoLimit := e0.mod.nolimit.keeps fun b o e => (e0.bs b o e).1
    obtain ⟨u1, ur, rfl, r1, rr⟩ : ∃ u1 ur, us = u1 :: ur ∧ RelV (.ref a) u1 ∧ Vals [v] ur := by
      cases r with
      | cons p q => exact ⟨_, _, rfl, p, q⟩
    obtain ⟨u2, rfl, r2⟩ := Vals.one rr
    obtain rfl : u1 = Value.ref a := r1
    refine ks_codeAny_call_defAt (fd := ksFn "__init__" qual (defArgs st) (defBody st) (defScope st) .none kV doc pm an (.ref cda) ct cc) (body := defBody st) (binds := [("self", .ref a), ("word", u2)]) hr.depth (KX _ _ lk) rfl lim (codeRec_of KX hcd) rfl hb S.nocell (fun y hy => ?_) (fun h0 hns kp => ?_) S.co S.gen S.kind
    · rcases List.mem_cons.mp hy with rfl | hy
      · exact S.nS
      · rcases List.mem_cons.mp hy with rfl | hy
        · exact S.nW
        · exact nomatch hy
    have I0 : L2.Inv (erCx CX P w K mg base A outer s H E qual (defScope st) fI cda cc) [] [some (.ref a), some v] H { s with heap := h0, toks := s.toks + 2 } := er_start S e0 hr.hd rfl r2 ⟨_, lcc, rfl⟩ hns kp
    obtain ⟨pl, hpl⟩ := hm (erCx CX P w K mg base A outer s H E qual (defScope st) fI cda cc).env
    have key := er_body (X := erCx CX P w K mg base A outer s H E qual (defScope st) fI cda cc) (st := st) (body := defBody st) (D := { nx := fun _ H' => Q .non H', rt := Q }) (p5 := p5) (q1 := q1) (q2 := q2) (q3 := q3) (q4 := q4) hpl rfl rfl S.nS S.nW S.nC S.nU S.top S.kind lk har harn lcd hvs hfile lcc R.T R.self R.sup R.opq R.up R.sub R.noW I0 ha fun dx n1 n2 => k dx n1 n2
    rw [← hbody] at key
    refine ks_wpAt_mono key (fun f s' hsp => ?_) fun e s' he => he
    cases f with
    | next =>
      obtain ⟨σ', H', J, q⟩ := hsp
      exact ⟨.non, H', J.os, J.bare, J.base, J.hok, rfl, q⟩
    | ret u =>
      obtain ⟨v', σ', H', J, rv, q⟩ := hsp
      exact ⟨v', H', J.os, J.bare, J.base, J.hok, rv, q⟩
    | brk =>
      obtain ⟨_, _, _, q⟩ := hsp
      exact False.elim q
    | cont =>
      obtain ⟨_, _, _, q⟩ := hsp
      exact False.elim q
end
end K24
/-! K24R1: enumerate over a tuple. -/
namespace K24
open PySem PySem.Spec PyProof.Rows L2
theorem meets_enumT (l : Addr) (items : Array Value) (n : Nat) (dct : Option Addr) (sl : Array (Option Value)) :
    Meets (Builtin.«enumerate.__new__» ⟨[.type "enumerate", .ref l], []⟩) (fun _ R s => s.heap.get? l = some { cls := .type "tuple", dict := dct, data := .seq items n, slots := sl } ∧
      R (.ok (.ret (.ref (s.heap.push { cls := .type "tuple_iterator", data := .fields #[.ref l, .int 0 0] }).objs.size)))
        { s with heap := (s.heap.push { cls := .type "tuple_iterator", data := .fields #[.ref l, .int 0 0] }).push { cls := .type "enumerate", data := .fields #[.none, .bool false, .ref s.heap.objs.size, rawInt 0, .none, .none] } }) :=
  .of_wp fun prog w A R s hyp => by
    obtain ⟨hp, g, d, tk, os⟩ := s
    obtain ⟨hl, hr⟩ := hyp
    have isSub := sub_enumerate
    have isT : Heap.IsTuple (Shared.heap ⟨hp, g, d, tk, os⟩) l items := ⟨_, hl, rfl, n, rfl⟩
    wp_walk using AutoSeq1.wpAny_loadPart' hl
    refine wpAny_stack_any fun st => wpAny_pure ?_
    split
    · rename_i c _ _ _ _ _
      cases (c == Value.type "enumerate")
      all_goals (wp_walk using AutoSeq1.wpAny_loadPart' hl, wpAny_pyIter_tuple isT)
      all_goals exact ⟨_, rfl, hr⟩
    · wp_walk using AutoSeq1.wpAny_loadPart' hl, wpAny_pyIter_tuple isT
      exact ⟨_, rfl, hr⟩
theorem call_enumT {prog : Program} {w : World} {A : Around} {E : Value → Shared → Prop} {s : Shared} {l : Addr} {items : Array Value} {Q : Value → Shared → Prop} (hL : s.heap.IsTuple l items)
    (h : ∀ h', IsEnum h' (s.heap.objs.size + 1) s.heap.objs.size 0 .none → h'.IsTupleIter s.heap.objs.size l 0 → (∀ b o, s.heap.get? b = some o → h'.get? b = some o) → Q (.ref (s.heap.objs.size + 1)) { s with heap := h' }) :
    wpAny (model prog w) A (call (.type "enumerate") [.ref l]) Q E s := by
  obtain ⟨⟨c, dct, dt, sl⟩, hl, hc, n, hd⟩ := hL
  obtain rfl : c = .type "tuple" := hc
  obtain rfl : dt = .seq items n := hd
  refine callType_new F.called_enumerate (by decide) (F.typeCall_enumerate_1 _) (F.newCall_enumerate_1 _) (fun obj => F.args_object_init_2 obj _) F.entry_enumerate_new
    (meets_enumT l items n dct sl) ⟨hl, ?_⟩
  have hz : (s.heap.push { cls := .type "tuple_iterator", data := .fields #[.ref l, .int 0 0] }).objs.size = s.heap.objs.size + 1 := Heap.size_push ..
  show _ ∧ _
  rw [hz]
  have enumAt := Heap.get?_push_size (s.heap.push { cls := .type "tuple_iterator", data := .fields #[.ref l, .int 0 0] }) (o := { cls := .type "enumerate", data := .fields #[.none, .bool false, .ref s.heap.objs.size, rawInt 0, .none, .none] }) rfl
  rw [hz] at enumAt
  exact ⟨⟨_, enumAt, rfl⟩, h _ enumAt ⟨_, Heap.get?_push_of_some _ (Heap.get?_push_size _ rfl), rfl, rfl⟩ fun b o x => Heap.get?_push_of_some _ (Heap.get?_push_of_some _ x)⟩
/-- the end of such a walk -/
theorem enum_endT {prog : Program} {w : World} {A : Around} {E : Value → Shared → Prop} {s : Shared} {e it l : Addr} {items : Array Value} {i : Nat} {c : Int} {old : Value} {Q : Option Value → Shared → Prop} (hh : A.handled = none) (he : IsEnum s.heap e it c old) (hit : s.heap.IsTupleIter it l i)
    (hl : s.heap.IsTuple l items) (hx : items[i]? = none) (hQ : ∀ h', Heap.ExtBut it s.heap h' → Q none { s with heap := h' }) : wpAny (model prog w) A (pyNext (.ref e)) Q E s := by
  have isE : s.TypeIs (.ref e) "enumerate" := ⟨_, he, rfl⟩
  unfold pyNext
  refine wpAny_bind (wpAny_attempt (wpAny_callSpecial?_slot (name := Str.ofString "__next__") isE F.slot_enumerate_next
    (wpAny_call_entry F.slot_enumerate_next isE F.entry_enumerate_next ?_ (F.args_enumerate_next_1 _))))
  show wpAny _ _ (field (.ref e) 2 >>= _) _ _ _
  refine wpAny_bind (wpAny_field he rfl (x := .ref it) rfl (wpAny_bind (wpAny_nextOf_tuple_end hh hit hl hx fun h' x he' hx' => ?_)))
  obtain ⟨o, ho, hc⟩ := hx'
  exact wpAny_bind (wpAny_isInstance (T := "StopIteration") (b := true) ⟨o, ho, hc⟩ isSubtype_stop (wpAny_pure (hQ _ he')))
/-- the tuple at a as it stands at each turn, each item in a new pair -/
def Iet (K : PySem.W.Frag) (a : Addr) : It where
  go := fun i H => ∃ (xs : List V) (x : V), SqT K H a xs ∧ xs[i]? = some x
  yld := fun i H v H' => ∃ T x, v = .ref T ∧ H T = none ∧ H' = upd H T (.tup [.int (i : Nat), x]) ∧ ∀ xs, SqT K H a xs → xs[i]? = some x
  stop := fun i H => ∃ xs : List V, SqT K H a xs ∧ xs.length ≤ i
theorem turn_enumT {P : Program} {w : World} {K : PySem.W.Frag} {elts : List Expr} {kk : Nat} {tpos : Pos} (a e it : Addr) (hai : a ≠ it) (hae : a ≠ e) :
    Turn P w K (.Tuple elts kk tpos) (Iet K a) [e, it] e (fun i h => (∃ old, IsEnum h e it (i : Int) old) ∧ h.IsTupleIter it a i ∧ e ≠ it) where
  mem := by simp
  obj := fun i h st b hb => by
    obtain ⟨⟨old, he⟩, ⟨o, ho, hc, hd⟩, _⟩ := st
    rcases (show b = e ∨ b = it by simpa using hb) with z | z
    · rw [z]
      exact ⟨_, he, fun v q => nomatch q⟩
    · rw [z]
      exact ⟨o, ho, fun v q => by rw [hd] at q; cases q⟩
  keep := fun i h h' st k => by
    obtain ⟨⟨old, he⟩, hi, hne⟩ := st
    exact ⟨⟨old, k e (by simp) _ he⟩, hi.at fun o q => k it (by simp) o q, hne⟩
  item := by
    intro X hP hw hK hc i pins s σ H E I hf st hg
    subst hP hw hK
    obtain ⟨⟨old, he⟩, hit, hne⟩ := st
    obtain ⟨xs, x, hq, hx⟩ := hg
    obtain ⟨its, rv, p, hz⟩ := I.tuple hq
    obtain ⟨u, hu, ru⟩ := rv.get hx
    have isT : s.heap.IsTuple a its.toArray := p
    have hlt : i < its.toArray.size := by
      have := (List.getElem?_eq_some_iff.mp hu).1
      simpa using this
    have hel : e < s.heap.objs.size := Heap.lt_size he
    have hil : it < s.heap.objs.size := by
      obtain ⟨_, q, _⟩ := hit
      exact Heap.lt_size q
    refine wpAny_pyNext_enum_itemC (fp := [it, a]) (Draws.tuple (A := X.A.in1) (I.ok.hd hc) it a hai its.toArray) he ⟨hit, isT⟩ hlt hne (by simp [hne, Ne.symm hae]) fun x' h' tk hPx ho st' hT hsz hk => ?_
    have hPx : its.toArray[i]? = some x' := hPx
    obtain rfl : x' = u := by
      have : its[i]? = some x' := by simpa using hPx
      rw [hu] at this
      exact (Option.some.inj this).symm
    refine ⟨_, rfl, wpAny_letOwnedTupleGo_enum (s := { s with heap := h', toks := tk + 1 }) ho fun h'' he' sb => ?_⟩
    have hT2 : h''.get? s.heap.objs.size = some { cls := .type "tuple", data := .seq #[.int i tk, x'] } := (sb.2 _ (Nat.ne_of_gt hel)).trans hT
    have new : ObjOk X.prog X.w (upd H s.heap.objs.size (.tup [.int (i : Nat), x])) h'' s.heap.objs.size (.tup [.int (i : Nat), x]) :=
      ⟨by show 2 ≤ sizeLine; decide, [.int i tk, x'], .cons ⟨_, rfl⟩ (.cons ru .nil), ⟨_, hT2, rfl, _, rfl⟩⟩
    have I1 : L2.Inv X pins σ (upd H s.heap.objs.size (.tup [.int (i : Nat), x])) { s with heap := h'', toks := tk + 1 } :=
      I.turnedNew (ch := [e, it]) (fun b ob hb q => (sb.2 b (fun z => hb (by simp [z]))).trans (hk b ob (fun z => hb (by simp [z])) (fun z => hb (by simp [z])) q)) hf (Nat.le_refl _) new
    refine ⟨.ref s.heap.objs.size, _, I1, rfl, ⟨_, x, rfl, I.hok.fresh (Nat.le_refl _), rfl, fun ys hy => by rw [I.tuple_inj hy hq]; exact hx⟩, ⟨⟨x', ?_⟩, st'.1.at fun o q => (sb.2 it (Ne.symm hne)).trans q, hne⟩, fun b hb => ?_⟩
    · have e1 : ((i + 1 : Nat) : Int) = (i : Int) + 1 := by omega
      rw [e1]
      exact he'
    · have hb' : b < s.heap.objs.size := by
        rcases (show b = e ∨ b = it by simpa using hb) with z | z <;> rw [z] <;> assumption
      rw [upd_ne (Nat.ne_of_lt hb')]
      exact (hf b hb).1
  done := by
    intro X hP hw hK hc i pins s σ H E I hf st hg
    subst hP hw hK
    obtain ⟨⟨old, he⟩, hit, hne⟩ := st
    obtain ⟨xs, hq, hx⟩ := hg
    obtain ⟨its, rv, p, hz⟩ := I.tuple hq
    obtain ⟨f0, f1, f2, f3, f4, f5⟩ := hf it (by simp)
    have hl := rv.length
    refine enum_endT (I.ok.hd hc) he hit p (by simp; omega) fun h' eb => ⟨rfl, I.turned (t' := s.toks) (fun b o hb q => eb b o hb q) f0 f1 f3 f4 f5⟩
  self := fun A i s Q E st h => by
    obtain ⟨⟨_, he⟩, _⟩ := st
    exact wpAny_pyIter_enum he h
def iEnumT (K : PySem.W.Frag) (ta : TA) : TI := fun σ H R => ta σ H fun vs H1 => ∃ a xs, vs = [.ref a] ∧ SqT K H1 a xs ∧ R (Iet K a) H1
theorem pi_enumT {X : Cx} {e : Expr} {ta : TA} {p pos tpos : Pos} {elts : List Expr} {kk : Nat} (hg : Gl X "enumerate") (hm : X.mg "enumerate" = none) (ha : PA X [e] ta) (hs : starEach [e] X.env = [(false, eval e X.env)] := by rfl) :
    PI X (.Tuple elts kk tpos) (.Call (.Name "enumerate" p) [e] [] pos) (iEnumT X.K ta) := by
  refine ⟨fun pins s σ H R I h => Call_ (ld_blt I hg hm boot_enumerate (PyProof.Rows.callWith_type1 (thn (ha.run pos pins s σ H _ I h) fun us s1 hq1 => ?_) hs rfl))⟩
  obtain ⟨vs, H1, I1, r1, a, xs, ex, hq, q⟩ := hq1
  subst ex
  have eu := Vals.ref1 r1
  subst eu
  obtain ⟨its, rv, p', hz⟩ := I1.tuple hq
  have hlt : a < s1.heap.objs.size := p'.lt
  refine call_enumT p' fun h' he hit hk => wpAny_pyIter_enum he ?_
  have I2 : L2.Inv X pins σ H1 { s1 with heap := h' } := I1.kept (t' := s1.toks) hk
  refine ⟨s1.heap.objs.size + 1, [s1.heap.objs.size + 1, s1.heap.objs.size], _, _, H1, rfl, I2, turn_enumT a (s1.heap.objs.size + 1) s1.heap.objs.size (Nat.ne_of_lt hlt) (Nat.ne_of_lt (Nat.lt_succ_of_lt hlt)), ⟨⟨.none, he⟩, hit, Nat.succ_ne_self _⟩, fun b hb => ?_, q⟩
  have hle : s1.heap.objs.size ≤ b := by
    rcases (show b = s1.heap.objs.size + 1 ∨ b = s1.heap.objs.size by simpa using hb) with z | z <;> rw [z] <;> omega
  exact I1.fpOk hle (I1.hok.fresh hle)
end K24
/-! K24R2: Bundles of what a caller knows of a def, a method, a property, a class; calls by keywords alone; // by any divisor. -/
namespace K24
open PySem PySem.Spec PyProof.Rows L2
/-- a def of the module, by its name -/
structure Dn (P : Program) (w : World) (K : PySem.W.Frag) (mg : Str → Option Value) (base : Heap) (x : Str) (k : Nat) (ps : List Str) (sp : Sp) : Prop where
  ex : ∃ (f : Addr) (fd : FuncData), FnOk P w K mg base (L2.CX P w) k f fd ps sp ∧ mg x = some (.ref f) ∧ PySem.W.keepIn K (.ref f) = true ∧ Binds K fd ps []
/-- a method of the class at C -/
structure Dm (P : Program) (w : World) (K : PySem.W.Frag) (mg : Str → Option Value) (base : Heap) (C : Addr) (m : Str) (k : Nat) (ps : List Str) (sp : Sp) : Prop where
  cl : Cls K C
  ex : ∃ (f : Addr) (fd : FuncData), FnOk P w K mg base (L2.CX P w) k f fd ps sp ∧ Meth K C m f ∧ Binds K fd ps []
/-- .. and how it takes keywords alone: names ks, in the parameters' order by gV -/
structure Dmk (P : Program) (w : World) (K : PySem.W.Frag) (mg : Str → Option Value) (base : Heap) (C : Addr) (m : Str) (k : Nat) (ps ks : List Str) (g : List Value → List Value → List Value) (gV : List V → List V → List V) (sp : Sp) : Prop where
  cl : Cls K C
  ex : ∃ (f : Addr) (fd : FuncData), FnOk P w K mg base (L2.CX P w) k f fd ps sp ∧ Meth K C m f ∧ KBinds K fd ps ks g gV
/-- a property -/
structure Dp (P : Program) (w : World) (K : PySem.W.Frag) (mg : Str → Option Value) (base : Heap) (C : Addr) (m : Str) (k : Nat) (sp : Sp) : Prop where
  cl : Cls K C
  ex : ∃ (p f : Addr) (fd : FuncData), FnOk P w K mg base (L2.CX P w) k f fd ["self"] sp ∧ PropOf K C m p f ∧ Binds K fd ["self"] []
/-- a class that is made -/
structure Dk (P : Program) (w : World) (K : PySem.W.Frag) (mg : Str → Option Value) (base : Heap) (x : Str) (C : Addr) (k : Nat) (ps : List Str) (sp : Sp) : Prop where
  ex : ∃ (f : Addr) (fd : FuncData), FnOk P w K mg base (L2.CX P w) k f fd ps sp ∧ Mk K C f ∧ mg x = some (.ref C) ∧ Binds K fd ps []
section
variable {X : Cx} {x m : Str} {C : Addr} {k : Nat} {ps ks : List Str} {sp : Sp} {E : XK} {e o : Expr} {es : List Expr} {kws : List Keyword} {ta : TE} {t tk : TA} {p pos apos : Pos} {pl : Sem Bool}
theorem pe_dn (D : Dn X.prog X.w X.K X.mg X.base x k ps sp) (hr : Room k X.A) (hg : Gl X x) (hx : Passes (L2.CX X.prog X.w) X E) (ha : PA X (e :: es) t)
    (hdb : (x == ("__debug__" : Str)) = false := by decide) (he : starEach (e :: es) X.env = (false, eval e X.env) :: starEach es X.env := by rfl) (hpl : (backTo pos (starEach es X.env)).any (·.1) = false := by rfl) :
    PE X (.Call (.Name x p) (e :: es) [] pos) (tCall sp [] E t) := by
  obtain ⟨f, fd, F, hm, hk, hb⟩ := D.ex
  exact pe_call F hr hg hm hk hb .nil hx ha hdb he hpl
theorem pe_dm (he : PE X o ta) (D : Dm X.prog X.w X.K X.mg X.base C m k ps sp) (hr : Room k X.A) (hx : Passes (L2.CX X.prog X.w) X E) (ha : PA X (e :: es) t)
    (hst : starEach (e :: es) X.env = (false, eval e X.env) :: starEach es X.env := by rfl) (hpl : (backTo pos (starEach es X.env)).any (·.1) = false := by rfl)
    (ht : eval (.Call (.Attribute o m apos) (e :: es) [] pos) X.env = (eval o X.env >>= fun ov => standAt apos.atName >>= fun _ => holding [ov] (getMethod ov m pl) >>= fun fx => callWith pos fx.1 fx.2 (backTo pos (starEach (e :: es) X.env)) (backToKw pos (keywordEach [] X.env))) := by rfl) :
    PE X (.Call (.Attribute o m apos) (e :: es) [] pos) (tMeth C m sp [] E ta t) := by
  obtain ⟨f, fd, F, hm, hb⟩ := D.ex
  exact pe_meth (pl := pl) he D.cl hm F hr hb .nil hx ha hst hpl ht
theorem pe_dm0 (he : PE X o ta) (D : Dm X.prog X.w X.K X.mg X.base C m k ps sp) (hr : Room k X.A) (hx : Passes (L2.CX X.prog X.w) X E)
    (ht : eval (.Call (.Attribute o m apos) [] [] pos) X.env = (eval o X.env >>= fun ov => standAt apos.atName >>= fun _ => holding [ov] (getMethod ov m pl) >>= fun fx => callWith pos fx.1 fx.2 (backTo pos (starEach [] X.env)) (backToKw pos (keywordEach [] X.env))) := by rfl) :
    PE X (.Call (.Attribute o m apos) [] [] pos) (tMeth C m sp [] E ta tNil) := by
  obtain ⟨f, fd, F, hm, hb⟩ := D.ex
  exact pe_meth0 (pl := pl) he D.cl hm F hr hb .nil hx ht
theorem pe_dp (he : PE X o ta) (D : Dp X.prog X.w X.K X.mg X.base C m k sp) (hr : Room (k + 1) X.A) (hab : attributeBase o m X.env (eval o X.env) = eval o X.env := by rfl) : PE X (.Attribute o m pos) (tProp C sp [] E0 ta) := by
  obtain ⟨q, f, fd, F, hp, hb⟩ := D.ex
  exact pe_prop he D.cl hp F hr hb .nil passL hab
theorem pe_dk (D : Dk X.prog X.w X.K X.mg X.base x C k ps sp) (hr : Room (k + 1) X.A) (hg : Gl X x) (ha : PA X (e :: es) t)
    (hdb : (x == ("__debug__" : Str)) = false := by decide) (he : starEach (e :: es) X.env = (false, eval e X.env) :: starEach es X.env := by rfl) (hpl : (backTo pos (starEach es X.env)).any (·.1) = false := by rfl) :
    PE X (.Call (.Name x p) (e :: es) [] pos) (tMake C sp [] E0 t) := by
  obtain ⟨f, fd, F, M, hm, hb⟩ := D.ex
  exact pe_make M F hr hg hm hb .nil passL ha hdb he hpl
/-- o.m(k = v, ..) -/
def tMethK (C : Addr) (m : Str) (sp : Sp) (gV : List V → List V → List V) (E : XK) (ta : TE) (tk : TA) : TE := fun σ H Q => ta σ H fun x H1 => ∃ a dx fs, x = .ref a ∧ H1 a = some (.ins C dx fs) ∧ fs.lookup m = none ∧ tk σ H1 fun zs H2 => sp (gV [x] zs) H2 Q E
theorem pe_dmk {g : List Value → List Value → List Value} {gV : List V → List V → List V} (he : PE X o ta) (D : Dmk X.prog X.w X.K X.mg X.base C m k ps ks g gV sp) (hr : Room k X.A) (hx : Passes (L2.CX X.prog X.w) X E) (hkw : PK X kws tk)
    (hall : (backToKw pos (keywordEach kws X.env)).all (·.1.isSome) = true := by rfl) (hks : (backToKw pos (keywordEach kws X.env)).filterMap (·.1) = ks := by rfl) (hno : ((backTo pos (starEach [] X.env)).any (·.1) || (backToKw pos (keywordEach kws X.env)).any (·.1.isNone)) = false := by rfl)
    (ht : eval (.Call (.Attribute o m apos) [] kws pos) X.env = (eval o X.env >>= fun ov => standAt apos.atName >>= fun _ => holding [ov] (getMethod ov m pl) >>= fun fx => callWith pos fx.1 fx.2 (backTo pos (starEach [] X.env)) (backToKw pos (keywordEach kws X.env))) := by rfl) :
    PE X (.Call (.Attribute o m apos) [] kws pos) (tMethK C m sp gV E ta tk) := by
  obtain ⟨f, fd, F, hm, hb⟩ := D.ex
  refine ⟨fun pins s σ H Q I h => ?_⟩
  refine PySem.W.methodCall_KW (pl := pl) (thn (he.run pins s σ H _ I h) fun u s1 hq => ?_) ht
  obtain ⟨x, H1, I1, rx, a, dx, fs, ex, ea, l, q⟩ := hq
  subst ex
  obtain rfl : u = Value.ref a := rx
  refine getmeth_ok I1 ea D.cl hm l ?_
  refine PySem.W.callWith_KW0 (first := [.ref a]) (h₀ := X.base) I.ok.mod.kin hm.kp hall (thn (hkw.run pos pins s1 σ H1 _ I1 q) fun ws s2 hq2 => ?_) hno
  obtain ⟨zs, H2, I2, rz, q2⟩ := hq2
  refine ⟨I2.kIn, ?_⟩
  rw [hks]
  exact run_fnk (us := [.ref a]) (vs := [.ref a]) F hr hb hx I2 (.cons rfl .nil) rz q2
end
/-- // by any divisor but 0, below 2 ^ 9000 in size -/
def CDivS (_ j : Int) : Prop := j ≠ 0 ∧ j.natAbs.log2 < 9000
theorem op_fdivS {X : Cx} : OpR X (binaryOp .FloorDiv) (rI CDivS fun i j => .int (i.fdiv j)) := opI fun _ _ _ _ _ _ _ hc q => floordiv_int hc.1 q (.inl (PyProof.noPylong_of_log2 hc.2))
theorem cdivS {i j : Int} {b : Nat} (h : j ≠ 0) (hb : j.natAbs < 2 ^ b) (h0 : 0 < b) (h9 : b ≤ 9000) : CDivS i j := ⟨h, Nat.lt_of_lt_of_le (PySem.Flt.log2_lt_of h0 hb) h9⟩
end K24
/-! K24R3: Dict comprehensions over any walk, by the turn; x = {..}; a store to an attribute as a target. -/
namespace K24
open PySem PySem.Spec PyProof.Rows L2
/-- what a dict comprehension's turns ask, over the walk J of n turns: Pv by the turn and the heap -/
theorem dc_by {J : It} {n : Nat} {g : TG} {tt : TT} {tk tv : TE} {vs : List Nat} {σ : L2.St} {H1 : Hp} {D : Addr} {Qd : Hp → Prop} (Pv : Nat → Hp → Prop) (h0 : Pv 0 (upd H1 D (.dK []))) (hgo : ∀ i H, i < n → Pv i H → J.go i H) (hst : ∀ H, Pv n H → J.stop n H)
    (hs : ∀ i H x H', i < n → Pv i H → J.yld i H x H' → g x (wipe σ vs) H' fun σ2 H2 => wipe σ2 vs = wipe σ vs ∧ tt σ2 H2 fun b H3 =>
      if b = true then tk σ2 H3 fun y H4 => tv σ2 H4 fun z H5 => ∃ kvs k, y = kV k ∧ H5 D = some (.dK kvs) ∧ kvs.length < sizeLine ∧ Pv (i + 1) (upd H5 D (.dK (putK kvs k z))) else Pv (i + 1) H3) (hd : ∀ H, Pv n H → Qd H) :
    ∃ W : Nat → Nat → Hp → Prop, (∃ m, W 0 m (upd H1 D (.dK []))) ∧ ∀ i m H, W i m H →
      (J.stop i H ∧ Qd H) ∨ (J.go i H ∧ ∃ Nx : Hp → Prop, (∀ H', Nx H' → ∃ m', m' < m ∧ W (i + 1) m' H') ∧ ∀ x H', J.yld i H x H' → g x (wipe σ vs) H' fun σ2 H2 => wipe σ2 vs = wipe σ vs ∧ tt σ2 H2 fun b H3 =>
        if b = true then tk σ2 H3 fun y H4 => tv σ2 H4 fun z H5 => ∃ kvs k, y = kV k ∧ H5 D = some (.dK kvs) ∧ kvs.length < sizeLine ∧ Nx (upd H5 D (.dK (putK kvs k z))) else Nx H3) := by
  refine ⟨fun i m H => m = n - i ∧ i ≤ n ∧ Pv i H, ⟨n, rfl, Nat.zero_le _, h0⟩, ?_⟩
  rintro i m H ⟨rfl, hi, p⟩
  by_cases e : i = n
  · subst e
    exact .inl ⟨hst H p, hd H p⟩
  · have lt : i < n := by omega
    exact .inr ⟨hgo i H lt p, Pv (i + 1), fun H' p' => ⟨n - (i + 1), by omega, rfl, by omega, p'⟩, fun x H' y => hs i H x H' lt p y⟩
/-- the same of a list comprehension -/
theorem lc_by {J : It} {n : Nat} {g : TG} {tt : TT} {te : TE} {vs : List Nat} {σ : L2.St} {H1 : Hp} {D : Addr} {Qd : Hp → Prop} (Pv : Nat → Hp → Prop) (h0 : Pv 0 (upd H1 D (.lst []))) (hgo : ∀ i H, i < n → Pv i H → J.go i H) (hst : ∀ H, Pv n H → J.stop n H)
    (hs : ∀ i H x H', i < n → Pv i H → J.yld i H x H' → g x (wipe σ vs) H' fun σ2 H2 => wipe σ2 vs = wipe σ vs ∧ tt σ2 H2 fun b H3 =>
      if b = true then te σ2 H3 fun y H4 => ∃ acc, H4 D = some (.lst acc) ∧ acc.length < sizeLine ∧ Pv (i + 1) (upd H4 D (.lst (acc ++ [y]))) else Pv (i + 1) H3) (hd : ∀ H, Pv n H → Qd H) :
    ∃ W : Nat → Nat → Hp → Prop, (∃ m, W 0 m (upd H1 D (.lst []))) ∧ ∀ i m H, W i m H →
      (J.stop i H ∧ Qd H) ∨ (J.go i H ∧ ∃ Nx : Hp → Prop, (∀ H', Nx H' → ∃ m', m' < m ∧ W (i + 1) m' H') ∧ ∀ x H', J.yld i H x H' → g x (wipe σ vs) H' fun σ2 H2 => wipe σ2 vs = wipe σ vs ∧ tt σ2 H2 fun b H3 =>
        if b = true then te σ2 H3 fun y H4 => ∃ acc, H4 D = some (.lst acc) ∧ acc.length < sizeLine ∧ Nx (upd H4 D (.lst (acc ++ [y]))) else Nx H3) := by
  refine ⟨fun i m H => m = n - i ∧ i ≤ n ∧ Pv i H, ⟨n, rfl, Nat.zero_le _, h0⟩, ?_⟩
  rintro i m H ⟨rfl, hi, p⟩
  by_cases e : i = n
  · subst e
    exact .inl ⟨hst H p, hd H p⟩
  · have lt : i < n := by omega
    exact .inr ⟨hgo i H lt p, Pv (i + 1), fun H' p' => ⟨n - (i + 1), by omega, rfl, by omega, p'⟩, fun x H' y => hs i H x H' lt p y⟩
/-- and of a for loop -/
theorem for_by {J : It} {n : Nat} {g : TG} {tb : TS} {D : Ends} {σ : L2.St} {H : Hp} (Pv : Nat → L2.St → Hp → Prop) (h0 : Pv 0 σ H) (hgo : ∀ i σ H, i < n → Pv i σ H → J.go i H) (hst : ∀ σ H, Pv n σ H → J.stop n H)
    (hs : ∀ i σ H x H', i < n → Pv i σ H → J.yld i H x H' → g x σ H' fun σ2 H2 => tb { D with nx := Pv (i + 1), ct := Pv (i + 1), bk := D.nx } σ2 H2) (hd : ∀ σ H, Pv n σ H → D.nx σ H) :
    ∃ W : Nat → Nat → L2.St → Hp → Prop, (∃ m, W 0 m σ H) ∧ ∀ i m σ H, W i m σ H →
      (J.stop i H ∧ D.nx σ H) ∨ (J.go i H ∧ ∃ N : L2.St → Hp → Prop, (∀ σ' H', N σ' H' → ∃ m', m' < m ∧ W (i + 1) m' σ' H') ∧ ∀ x H', J.yld i H x H' → g x σ H' fun σ2 H2 => tb { D with nx := N, ct := N, bk := D.nx } σ2 H2) := by
  refine ⟨fun i m σ H => m = n - i ∧ i ≤ n ∧ Pv i σ H, ⟨n, rfl, Nat.zero_le _, h0⟩, ?_⟩
  rintro i m σ H ⟨rfl, hi, p⟩
  by_cases e : i = n
  · subst e
    exact .inl ⟨hst σ H p, hd σ H p⟩
  · have lt : i < n := by omega
    exact .inr ⟨hgo i σ H lt p, Pv (i + 1), fun σ' H' p' => ⟨n - (i + 1), by omega, rfl, by omega, p'⟩, fun x H' y => hs i σ H x H' lt p y⟩
section
variable {X : Cx}
/-- name = {k: v for ..} on one line, the name a local -/
theorem ps_setDc {i : Nat} {y : Str} {py : Pos} {kx vx tg iter : Expr} {ifs : List Expr} {scope : Scope} {own : List (Str × Nat)} {pos spos : Pos} {wi : TI} {g : TG} {tt : TT} {tk tv : TE} (hc : X.calm = true) (hN : X.N.Nodup) (hy : X.N[i]? = some y) (hyl : X.env.scope.names.lookup y = some .local)
    (hsw : swapsWith (.DictComp kx vx [⟨tg, iter, ifs, 0⟩] scope pos) (some (.Name y py)) spos.line X.env = pure true) (hi : PI X tg iter wi) (ok : BlkOk X.N X.env.scope scope own)
    (hg : ∀ (s : Shared) (H : Hp) (C : Addr) (cl : List (Str × Addr)) (fp : List Addr), PG (X.blk s H scope (compEnvC scope cl C X.env) fp) tg g) (ht : ∀ (s : Shared) (H : Hp) (C : Addr) (cl : List (Str × Addr)) (fp : List Addr), PTs (X.blk s H scope (compEnvC scope cl C X.env) fp) ifs tt)
    (hk : ∀ (s : Shared) (H : Hp) (C : Addr) (cl : List (Str × Addr)) (fp : List Addr), PE (X.blk s H scope (compEnvC scope cl C X.env) fp) kx tk) (he : ∀ (s : Shared) (H : Hp) (C : Addr) (cl : List (Str × Addr)) (fp : List Addr), PE (X.blk s H scope (compEnvC scope cl C X.env) fp) vx tv)
    (hs : ∀ x, foldedSetIterable iter X.env x = pure x := by intro _; rfl) :
    PS X (.Assign [.Name y py] (.DictComp kx vx [⟨tg, iter, ifs, 0⟩] scope pos) spos) (tAsg (tDc wi g tt tk tv (own.map (·.2))) (gName i)) := by
  refine ⟨fun pins s σ H D I h => ?_⟩
  rw [exec_Assign_Name_used _ _ _ _ hsw]
  refine wpAny_bind (wpAny_standAt (wpAny_bind ?_))
  show wpAny _ X.A (do let _ ← comprehension (.DictComp kx vx [⟨tg, iter, ifs, 0⟩] scope pos) scope X.env (firstIterPos [⟨tg, iter, ifs, 0⟩] pos) newDict false (eval iter X.env) (some (assign (.Name y py) X.env))) _ _ s
  have h' : tDc wi g tt tk tv (own.map (·.2)) σ H (fun x H1 => gName i x σ H1 D.nx) := h
  refine wpAny_bind (thn (dc_core (Qf := fun _ s' => SP X pins D .next s') hc hN I hi ok hg ht hk he hs h' fun L C s' m H' I' q hn f => ?_) fun _ s' hq => wpAny_pure (wpAny_pure hq))
  show wpAny _ _ (assign (.Name y py) X.env (.ref L)) _ _ _
  refine wpAny_assign_Name (store_ok2 (v := V.ref L) I' hN hy (.inl hyl) rfl (fun s2 I2 hsb => ?_) (.inr hyl))
  obtain ⟨a, sb, ha⟩ := hsb
  obtain ⟨f0, f1, f2, f3, f4, f5⟩ := f
  have haC : C ≠ a := by
    rcases ha with z | z
    · rw [z]
      exact f1
    · intro e
      exact f4 y a z e.symm
  exact ⟨m, hn.sameBut sb haC, fun h3 sb3 => ⟨_, H', I2.turned (t' := s2.toks) (fun b o hb e => (sb3.2 b hb).trans e) f0 f1 f3 f4 f5, q⟩⟩
theorem sw_dict {kx vx : Expr} {gs : List Comprehension} {scope : Scope} {pos py : Pos} {y : Str} {l : Nat} {env : Env} (hk : env.scope.kind = .function) (hy : env.scope.names.lookup y = some .local) (hl : (py.line == pos.line) = true)
    (ha : (scope.names.any fun (n, k) => n == y && (k == .local || k == .cell)) = false) : swapsWith (.DictComp kx vx gs scope pos) (some (.Name y py)) l env = pure true := by
  have ky : env.kindOf y = some .local := hy
  have hb : env.blockKind = .function := by unfold Env.blockKind; rw [hk]; rfl
  unfold swapsWith
  simp only [hb, ky, ha, Expr.pos, hl]
  rfl
/-- o.f as a target -/
def gFld (K : PySem.W.Frag) (to : TE) (f : Str) : TG := fun y σ H Q => to σ H fun x H1 => ∃ a C dx fs, x = .ref a ∧ H1 a = some (.ins C dx fs) ∧ Cls K C ∧ NoAttr K C f ∧ fs.length < 1000 ∧ Q σ (upd H1 a (.ins C dx (putF f y fs)))
theorem pg_fld {o : Expr} {f : Str} {to : TE} {pos : Pos} (ho : PE X o to) : PG X (.Attribute o f pos) (gFld X.K to f) := by
  refine ⟨fun pins s σ H v u Q I r h => ?_⟩
  rw [assign_Attribute]
  refine wpAny_bind (wpAny_holding (thn (ho.run pins s σ H _ I h) fun ov s1 hq => ?_))
  obtain ⟨x, H1, I1, rx, a, C, dx, fs, ex, ea, c, n, l, q⟩ := hq
  subst ex
  obtain rfl : ov = Value.ref a := rx
  refine wpAny_bind (wpAny_standAt (wpAny_bind (wpAny_holding (setattr_ok I1 ea c n l r fun s3 I3 => ?_))))
  exact wpAny_release ⟨σ, _, I3, q⟩
/-- the same with the written part by its name (for the suites of comprehensions) -/
theorem pe_fldK {K : PySem.W.Frag} {e : Expr} {f : Str} {ta : TE} {pos : Pos} (he : PE X e ta) (hK : X.K = K) (hb : attributeBase e f X.env (eval e X.env) = eval e X.env) : PE X (.Attribute e f pos) (tFld K ta f) := hK ▸ pe_fld he hb
theorem pg_tupK {K : PySem.W.Frag} {es : List Expr} {k : Nat} {t : TGs} {n : Nat} {pos : Pos} (hc : X.calm = true) (h : PGs X es t) (hK : X.K = K) (hn : (assignEach es X.env).length = n := by rfl) (hst : (assignEach es X.env).findIdx? (·.1) = none := by rfl) : PG X (.Tuple es k pos) (gTup K n t) := hK ▸ pg_tup hc h hn hst
end
end K24
/-! K24R4: The two errors raised; several clauses with a name; isinstance of a caught error that has a dict. -/
namespace K24
open PySem PySem.Spec PyProof.Rows L2 PySem.W
/-- what is known of such an error class -/
structure De (P : Program) (w : World) (K : Frag) (mg : Str → Option Value) (base : Heap) (x : Str) (C : Addr) : Prop where
  T : OexC K C
  mgC : mg x = some (.ref C)
  ex : ∃ (fI : Addr) (fd : FuncData), FnOk P w K mg base (L2.CX P w) 1 fI fd ["self", "word"] (spErr C) ∧ findIn K (.ref C) "__init__" = some (some (.ref fI)) ∧ typeIn K (.ref fI) = some (.type "function") ∧ Binds K fd ["self", "word"] []
section
variable {X : Cx} {x : Str} {C : Addr} {e : Expr} {te : TE} {p pos pos' : Pos} {W : WX}
theorem ps_err (D : De X.prog X.w X.K X.mg X.base x C) (hc : X.calm = true) (tk : Takes X W) (hr : Room 2 X.A) (hg : Gl X x) (he : PE X e te)
    (hdb : (x == ("__debug__" : Str)) = false := by decide) (h1 : starEach [e] X.env = (false, eval e X.env) :: starEach [] X.env := by rfl) (h2 : (backTo pos (starEach [] X.env)).any (·.1) = false := by rfl) :
    PS X (.Raise (some (.Call (.Name x p) [e] [] pos)) none pos') (fun _ σ H => tMkO C (spErr C) [] (tCons te tNil) σ H fun cls d H' => W cls d σ H') := by
  obtain ⟨fI, fd, F, iC, tI, hb⟩ := D.ex
  exact ps_raise hc tk (pmk_oex D.T iC tI F hr hb .nil passL hg D.mgC (pa_cons he pa_nil h1) hdb h1 h2)
end
/-- all that stood stands -/
theorem err_leaf {C : Addr} {H : Hp} {v : V} {Q : XK} (h : ∀ d H', H d = none → Same H H' → H' d = some (.xd [("word", v)]) → Q (.ref C) (some d) H') :
    ([v] : List V).length ≤ 1000 ∧ ∀ a, H a = none → spErr C (.ref a :: (([v] : List V) ++ [])) (upd H a (exo a C none))
      (fun u H2 => u = .non ∧ ∃ (d : Addr) (fs : List (Str × V)), H2 a = some (exo a C (some d)) ∧ H2 d = some (exd d fs) ∧ H d = none ∧ Q (.ref C) (some d) (upd (del H2 a) d (.xd fs))) (fun _ _ _ => False) := by
  refine ⟨by show 1 ≤ 1000; decide, fun a ha => ⟨a, v, rfl, upd_same, fun dx hdx hne => ⟨rfl, dx, [("word", v)], upd_same, by rw [upd_ne hne, upd_same], ?_, ?_⟩⟩⟩
  · rwa [upd_ne hne] at hdx
  · have hd0 : H dx = none := by rwa [upd_ne hne] at hdx
    refine h dx _ hd0 (fun b o hb => ?_) upd_same
    have nb1 : b ≠ a := ne_of_none hb ha
    have nb2 : b ≠ dx := ne_of_none hb hd0
    rw [upd_ne nb2, del_ne nb1, upd_ne nb1, upd_ne nb2, upd_ne nb1]
    exact hb
/-! K24R4: ### several clauses 'except x as n' -/
/-- what the clauses wish of an exception of the body; n's slot is i -/
def wAsM (K : Frag) (i : Nat) (Wout : WX) (D : Ends) : List (Value × (Addr → Value → Option Addr → TS)) → WX
  | [] => Wout
  | (c, ts) :: r => fun cls d σ H => ∃ b, exmOne K cls c = some b ∧ (b = true → ∀ a, H a = none → i < σ.length → ts a cls d { nx := fun σ' H' => D.nx (σ'.set i none) H', rt := D.rt, bk := fun σ' H' => D.bk (σ'.set i none) H', ct := fun σ' H' => D.ct (σ'.set i none) H' } (σ.set i (some (.ref a))) H) ∧
      (b = false → wAsM K i Wout D r cls d σ H)
inductive HdsA (X : Cx) (n : Str) : List ExceptHandler → List (Value × (Addr → Value → Option Addr → TS)) → Prop
  | nil : HdsA X n [] []
  | cons {x : Str} {c : Value} {ts : Addr → Value → Option Addr → TS} {b0 : Stmt} {suite : List Stmt} {np pos' : Pos} {hds : List ExceptHandler} {l : List (Value × (Addr → Value → Option Addr → TS))} (hc : Names X x c)
      (hsu : ∀ (a : Addr) (oe : Obj) (cls : Value) (d : Option Addr) (pn : List (Addr × Obj)), Zc cls d oe → (∃ vs, oe.data = .fields vs) → PSs (X.suite a ((a, oe) :: pn)) (b0 :: suite) (ts a cls d)) (r : HdsA X n hds l) :
      HdsA X n (.ExceptHandler (some (.Name x np)) (some n) (b0 :: suite) pos' :: hds) ((c, ts) :: l)
section
variable {X : Cx} {n : Str} {i : Nat} {body : List Stmt} {h0 : ExceptHandler} {hds : List ExceptHandler} {l : List (Value × (Addr → Value → Option Addr → TS))} {pos : Pos} {tb : WX → TS} {Wout : WX}
theorem ps_try_asM (hs : X.stack = X.env :: X.outer) (hf : X.env.frame = some X.env.locals) (hN : X.N.Nodup) (hi : X.N[i]? = some n) (hln : X.env.kindOf n = some .local) (tk : Takes X Wout)
    (hb : ∀ (W : WX) (pn : List (Addr × Obj)) (xe : Value → Shared → Prop), Takes (X.tr pn xe) W → PassesOwn (model X.prog X.w) X.A X.env xe → PSs (X.tr pn xe) body (tb W))
    (hh : HdsA X n (h0 :: hds) l) : PS X (.Try body (h0 :: hds) [] [] pos) (fun D σ H => tb (wAsM X.K i Wout D l) D σ H) := by
  refine ⟨fun pins s σ H D I hyp => ?_⟩
  have ok := I.ok
  have frm : X.A.frames = some (X.env :: X.outer) := by rw [ok.frames, hs]
  have hloc : Loc X.env.scope n := .inl hln
  refine wpAny_Try_except ?_
  refine wpAny_mono ((hb (wAsM X.K i Wout D l) (X.pn ++ pins) (fun e t => wpAny (model X.prog X.w) X.A (noteFrame e X.env) (fun _ t2 => wpAny (model X.prog X.w) X.A (setFlight e none) (fun _ t3 =>
    wpAny (model X.prog X.w) X.A (handleBy e X.env (h0 :: hds)) (SP X pins D) X.xe t3) X.xe t2) X.xe t) (fun u s' xx => ?_) PassesOwn.looking).run [] s σ H D (I.toTry _) hyp) (fun f s1 hsp => ?_) (fun e s1 he => he)
  · obtain ⟨a, B, sI, pins', σ', H', cls, d, rfl, J0, nb, up, sky, na, os, ag, wish⟩ := xx
    have J : L2.Inv X pins σ' H' sI := J0.ofTry ok
    rw [show (X.tr (X.pn ++ pins) _).stack = X.env :: X.outer from hs] at sky
    show wpAny (model X.prog X.w) X.A (noteFrame (.ref a) X.env) _ _ _
    refine Sky.land Zc.steady frm hf sky fun h3 fl3 up3 => ?_
    have J3 : L2.Inv X pins σ' H' { s' with heap := h3 } := J.landed nb fl3.1 (up.trans up3) os ag
    obtain ⟨oe3, vs3, he3, hz3, hd3⟩ := fl3.there
    have away : a ∉ frs (X.env :: X.outer) := fun hm => by
      obtain ⟨_, o', e', hnf⟩ := fl3.2.2.1.mem hm
      rw [he3] at e'
      cases e'
      exact hnf _ hd3
    have nL : a ≠ X.env.locals := fun z => away (List.mem_filterMap.mpr ⟨X.env, List.mem_cons_self, by rw [hf, z]⟩)
    have nF : a ∉ X.fs := fun hm => by
      obtain ⟨e, he, q⟩ := List.mem_filterMap.mp hm
      exact away (List.mem_filterMap.mpr ⟨e, List.mem_cons_of_mem _ he, q⟩)
    have S3 := J3.suite he3 hd3 na nL nF
    have LT : Looks (model X.prog X.w) h3 (typeOf (.ref a)) cls := fun A Q E s k q => wpAny_typeOf_ref (k _ _ he3) (by rw [hz3.1]; exact q)
    clear hb hyp
    have go : ∀ {hs2 : List ExceptHandler} {l2 : List (Value × (Addr → Value → Option Addr → TS))}, HdsA X n hs2 l2 → wAsM X.K i Wout D l2 cls d σ' H' → wpAny (model X.prog X.w) X.A (handleBy (.ref a) X.env hs2) (SP X pins D) X.xe { s' with heap := h3 } := by
      intro hs2 l2 hk
      induction hk with
      | nil =>
        intro wish
        refine wpAny_handleBy_nil ?_
        obtain ⟨k1, k2, k3, oe, vs, T, oT, ts', he, hz, hd, h1, hr⟩ := id fl3
        unfold PySem.passOn
        refine wpAny_bind (wpAny_field he hd h1 ?_)
        rw [if_neg (show ¬ ((Value.ref T == Value.none) = true) from by simp)]
        have fin : wpAny (model X.prog X.w) X.A (setFlight (.ref a) X.env.frame) (fun _ s4 => wpAny (model X.prog X.w) X.A (throw (.ref a) : Sem Flow) (SP X pins D) X.xe s4) X.xe { s' with heap := h3 } := by
          rw [hf]
          refine HandSPX.setFlight_upZ fl3 fun h4 hh4 up4 => wpAny_throw (tk _ _ ?_)
          exact ⟨a, B, sI, pins, σ', H', cls, d, rfl, J, nb, (up.trans up3).trans up4, .inr (.inr (by rw [hs]; exact hh4)), na, os, ag, wish⟩
        first
          | exact wpAny_bind (wpAny_pure (wpAny_bind fin))
          | exact wpAny_bind fin
      | @cons x c ts b0 suite np pos' hds2 l2 hc hsu r ih =>
        intro wish
        obtain ⟨b, hb1, hyes, hno⟩ := wish
        refine wpAny_handleBy_cons (codeAny_handlers_test ?_) (by intro q; cases q)
        have LM := exm_one (M := model X.prog X.w) (J3.kIn) LT hb1
        have test : ∀ {Q : Value → Shared → Prop} {E : Value → Shared → Prop}, Q c { s' with heap := h3 } → wpAny (model X.prog X.w) (X.A.mark (some (.ref a))) (eval (.Name x np) X.env) Q E { s' with heap := h3 } := by
          intro Q E q
          obtain ⟨hg, hdbg, hm | ⟨hm, hv, hnn⟩⟩ := hc
          · exact ld_glob (X := X.suite a ((a, oe3) :: (X.pn ++ pins))) S3 hg hm q hdbg
          · exact ld_blt (X := X.suite a ((a, oe3) :: (X.pn ++ pins))) S3 hg hm hv q hnn hdbg
        refine test (LM.here ?_)
        cases b with
        | false => exact ih (hno rfl)
        | true =>
          refine codeAny_handlers_suite_as (HandSPX.lands_againZ fl3 fun h4 fl4 up4 => ?_)
          have J4 : L2.Inv X pins σ' H' { s' with heap := h4 } := J.landed nb fl4.1 ((up.trans up3).trans up4) os ag
          obtain ⟨oe4, vs4, he4, hz4, hd4⟩ := fl4.there
          have S4 := J4.suite he4 hd4 na nL nF
          refine store_ok (X := X.suite a ((a, oe4) :: (X.pn ++ pins))) (v := .ref a) S4 hN hi hloc rfl (fun s5 S5 => ?_) (.inr hln)
          refine wpAny_mono ((hsu a oe4 cls d (X.pn ++ pins) hz4 ⟨_, hd4⟩).run [] s5 _ H' _ S5 (hyes rfl a na (by rw [J.len]; exact (List.getElem?_eq_some_iff.mp hi).1))) (fun f s6 hsp => ?_) (fun _ _ z => False.elim z)
          have unb : ∀ {σ6 : L2.St} {H6 : Hp} {Q : Shared → Prop}, L2.Inv (X.suite a ((a, oe4) :: (X.pn ++ pins))) [] σ6 H6 s6 → (∀ s7, L2.Inv X pins (σ6.set i none) H6 s7 → Q s7) →
              wpAny (model X.prog X.w) X.A (do bindName X.env n .none; unbindBehindTheSuite X.env n pos') (fun _ s7 => Q s7) X.xe s6 := fun S6 hq => gone_ok (S6.unsuite ok) hN hi hln hq
          cases f with
          | next =>
            obtain ⟨σ6, H6, S6, q6⟩ := hsp
            exact unb S6 fun s7 J7 => ⟨_, _, J7, q6⟩
          | brk =>
            obtain ⟨σ6, H6, S6, q6⟩ := hsp
            exact unb S6 fun s7 J7 => ⟨_, _, J7, q6⟩
          | cont =>
            obtain ⟨σ6, H6, S6, q6⟩ := hsp
            exact unb S6 fun s7 J7 => ⟨_, _, J7, q6⟩
          | ret u =>
            obtain ⟨v6, σ6, H6, S6, r6, q6⟩ := hsp
            exact unb S6 fun s7 J7 => ⟨_, _, _, J7, r6, q6⟩
    exact go hh wish
  · cases f with
    | next =>
      obtain ⟨σ', H', J', q⟩ := hsp
      exact wpAny_execs_nil ⟨σ', H', J'.ofTry ok, q⟩
    | brk =>
      obtain ⟨σ', H', J', q⟩ := hsp
      exact ⟨σ', H', J'.ofTry ok, q⟩
    | cont =>
      obtain ⟨σ', H', J', q⟩ := hsp
      exact ⟨σ', H', J'.ofTry ok, q⟩
    | ret u =>
      obtain ⟨v, σ', H', J', r, q⟩ := hsp
      exact ⟨v, σ', H', J'.ofTry ok, r, q⟩
end
/-- isinstance(e, c), e the error that the suite holds, its dict at dd -/
def rIsD (K : Frag) (D a dd : Addr) : List V → Hp → VK → Prop := fun xs H Q => ∃ (c : V) (cv : Value) (b : Bool) (fs : List (Str × V)), xs = [.ref a, c] ∧ (∀ u, RelV c u → u = cv) ∧ kitOne K (.ref D) cv = some b ∧ H dd = some (.xd fs) ∧ Q (.bl b) H
theorem call_isD {X : Cx} {a D dd : Addr} {oe : Obj} {pn : List (Addr × Obj)} (C : ExcC X.K D) (hz : Zc (.ref D) (some dd) oe) (hf : ∃ vs, oe.data = .fields vs) : CallR (X.suite a ((a, oe) :: pn)) (.builtin "isinstance") (rIsD X.K D a dd) := by
  intro pins s σ H xs us Q I r h
  obtain ⟨c, cv, b, fs, rfl, hcv, e, hd, q⟩ := h
  obtain ⟨u1, u2, rfl, r1, r2⟩ := Vals.two r
  obtain rfl : u1 = Value.ref a := r1
  have ec := hcv _ r2
  subst ec
  obtain ⟨at_, _⟩ := I.pin (a, oe) (List.mem_append.mpr (.inl List.mem_cons_self))
  obtain ⟨vs, hv⟩ := hf
  have hx : ObjOk X.prog X.w H s.heap dd (.xd fs) := I.hok dd _ hd
  obtain ⟨mA, hns, hr⟩ := hx
  obtain ⟨od, es, ep, ho, hl⟩ := hns
  have J : InstAt s.heap a oe D (some od) := ⟨at_, hz.1, by unfold notCls; rw [hv] <;> rfl, by rw [hz.2]; exact ho⟩
  have hcl : (clsIn X.K D).isSome = true := by
    obtain ⟨cd, hc, _⟩ := any_some C.hd
    rw [hc]
    rfl
  exact kia_one (kitx_exc hcl C.hg C.hk C.hs C.ha C.hn C.ht C.hm) I.kIn J e (fun z => nomatch z) fun tk => ⟨.bl b, H, I.kept (t' := tk) fun _ _ z => z, rfl, q⟩
end K24
/-! K24R5: Lambdas without parameters that are tracked (held in a list or a name) until _law_heard calls them. -/
namespace K24
open PySem PySem.Spec PyProof.Rows L2 PySem.W LamX
/-- at f: a lambda with this code object, these cells -/
def LamO (f : Addr) (q : Str) (params : Arguments) (body : Expr) (scope : Scope) (cl : List (Str × Addr)) (c' : Addr) : HO := .ext fun h => ∃ pm ctv, h.get? f = some (kla_obj "<lambda>" q params body scope cl pm c' ctv)
theorem lamO_ne_tbl {f : Addr} {q : Str} {params : Arguments} {body : Expr} {scope : Scope} {cl : List (Str × Addr)} {c' : Addr} (ps : Array Value) : LamO f q params body scope cl c' ≠ .tbl ps := fun z => by
  unfold LamO at z
  cases z
/-- one lambda of a text: parameters, body, scope; its body's reading by the wish -/
structure LamD where
  params : Arguments
  body : Expr
  scope : Scope
  t : XK → TE
/-- the lambda d of the maker X stands at f -/
def LamIs (X : Cx) (d : LamD) (H : Hp) (f c' : Addr) : Prop :=
  H f = some (LamO f (X.env.qual ++ "<lambda>") d.params d.body d.scope (cloFrom X.env.cells d.scope.names []) c') ∧ H c' = some (CodeO c' (X.env.qual ++ "<lambda>"))
structure LamD.Ok (X : Cx) (k : Nat) (d : LamD) : Prop where
  L : LamS X.env.scope d.scope
  dft : defaultsOf d.params X.env = ([], [])
  bind : ∀ (q : Str) (cl : List (Str × Addr)) (pm cv ctv : Value), bindArgs (kla_fn "<lambda>" q d.params d.body d.scope cl pm cv ctv) ⟨[], []⟩ = pure []
  run : ∀ (A : Around) (outer : List Env) (s : Shared) (H : Hp) (E : XK) (f c' : Addr), Room k (A.deeper (lamEnv X d.scope s.heap.objs.size f c')) → PE (lamCx X A outer s H E d.scope f c') d.body (d.t E)
/-- the reading of the making -/
def tMkLam (X : Cx) (T : List (Addr × Str)) (d : LamD) : TE := fun _ H Q => Tabs T H ∧ ∀ f c' H1, ExtN H H1 → Tabs T H1 → H f = none → LamIs X d H1 f c' → Q (.ref f) H1
section
variable {X : Cx} {T : List (Addr × Str)} {c P : Addr} {k : Nat} {d : LamD} {pos : Pos}
theorem tabs_new {H : Hp} {a : Addr} {o : HO} (t : Tabs T H) (h : H a = none) : Tabs T (upd H a o) := t.ext fun b u e => by rw [upd_ne (ne_of_none e h)]; exact e
theorem lam_track {pins : List (Addr × Obj)} {σ : L2.St} {H : Hp} {h' : Heap} {g : Array GenState} {dr : Drawn} {tk : Nat} {os : OsState} {pm ctv : Value} {c' : Addr} {q : Str} {params : Arguments} {body : Expr} {scope : Scope} {cl : List (Str × Addr)} (I : L2.Inv X pins σ H ⟨h', g, dr, tk, os⟩) :
    L2.Inv X pins σ (upd H h'.objs.size (LamO h'.objs.size q params body scope cl c')) ⟨h'.push (kla_obj "<lambda>" q params body scope cl pm c' ctv), g, dr, tk, os⟩ := by
  have at_ : (h'.push (kla_obj "<lambda>" q params body scope cl pm c' ctv)).get? h'.objs.size = some (kla_obj "<lambda>" q params body scope cl pm c' ctv) := Heap.get?_push_size _ rfl
  refine I.laid (t' := tk) (a := h'.objs.size) (h' := h'.push (kla_obj "<lambda>" q params body scope cl pm c' ctv)) (fun b o e => Heap.get?_push_of_some _ e) (Nat.le_refl _) ⟨⟨pm, ctv, at_⟩, ⟨_, at_⟩, fun h1 h2 hyp st => ?_⟩
  obtain ⟨pm2, ctv2, e⟩ := hyp
  exact ⟨pm2, ctv2, st _ e⟩
theorem pe_lam (D : d.Ok X k) (TB : TabB X.base X.mg c P) (hcode : X.env.code = .ref c) (hm : (P, X.env.qual ++ "<lambda>") ∈ T) (hu : ∀ p ∈ T, p.1 = P → p.2 = X.env.qual ++ "<lambda>") : PE X (.Lambda d.params d.body d.scope pos) (tMkLam X T d) := by
  refine ⟨fun pins s σ H Q I hyp => ?_⟩
  obtain ⟨hT, hyp⟩ := hyp
  obtain ⟨ps, hP, ht, ha⟩ := hT _ hm
  refine kla_eval D.dft ?_
  have bP : s.heap.BuiltinsAt X.mg P := TB.bm.keeps I.bk
  have hP' : s.heap.get? P = some { cls := .none, data := .fields ps } := I.hok P _ hP
  cases hc : codeAmong pos ps.toList with
  | none =>
    refine kla_makeFunction (mg := X.mg) (c := c) (P := P) (ps := ps) (closure_ok (D.L.has I.ok)) I.ok.glob (I.mod.glob.keeps I.bk) hcode (TB.code.keeps I.bk) hP' ht hc TB.gP bP fun c' ctv h' tk hx hge hlt hrec htb => ?_
    obtain ⟨c2, oc, vs, t, e2, hoc, hd, hv⟩ := hrec
    cases e2
    have nC : H c' = none := I.hok.fresh hge
    have I1 := inv_table (t' := tk) (more := #[rawInt pos.line, rawInt pos.col, .ref c']) (h' := h') (q := X.env.qual ++ "<lambda>") I hP hx htb hge ⟨oc, vs, t, hoc, hd, hv⟩
    have hE : ExtN H (upd (upd H P (.tbl (ps ++ #[rawInt pos.line, rawInt pos.col, .ref c']))) c' (CodeO c' (X.env.qual ++ "<lambda>"))) := fun b o e n => by
      rw [upd_ne (ne_of_none e nC), upd_ne (fun z => n ps (Option.some.inj (e.symm.trans (by rw [z]; exact hP))))]
      exact e
    have eL : (ps ++ #[rawInt pos.line, rawInt pos.col, .ref c']).toList = ps.toList ++ [rawInt pos.line, rawInt pos.col, .ref c'] := by simp
    have T1 : Tabs T (upd (upd H P (.tbl (ps ++ #[rawInt pos.line, rawInt pos.col, .ref c']))) c' (CodeO c' (X.env.qual ++ "<lambda>"))) := fun p hp => by
      by_cases hb : p.1 = P
      · rw [hu p hp hb, hb]
        refine ⟨_, by rw [upd_ne (ne_of_none hP nC), upd_same], by rw [eL]; exact PySem.TriplesOk_snoc _ _ _ _ ht, fun p' cv hcv => ?_⟩
        rw [eL] at hcv
        rcases among_app _ ht hcv with z | z
        · obtain ⟨c0, e1, e2⟩ := ha p' cv z
          exact ⟨c0, e1, hE _ _ e2 codeO_ne⟩
        · exact ⟨c', z, upd_same⟩
      · obtain ⟨ps', a1, a2, a3⟩ := hT p hp
        refine ⟨ps', by rw [upd_ne (ne_of_none a1 nC), upd_ne hb]; exact a1, a2, fun p' cv hcv => ?_⟩
        obtain ⟨c0, e1, e2⟩ := a3 p' cv hcv
        exact ⟨c0, e1, hE _ _ e2 codeO_ne⟩
    have fN := I1.hok.fresh (Nat.le_refl h'.objs.size)
    have fH : H h'.objs.size = none := I.hok.fresh (Nat.le_trans hge (Nat.le_of_lt hlt))
    refine ⟨.ref h'.objs.size, _, lam_track (c' := c') (q := X.env.qual ++ "<lambda>") I1, rfl, hyp h'.objs.size c' _ (fun b o e n => ?_) (tabs_new T1 fN) fH ⟨upd_same, ?_⟩⟩
    · rw [upd_ne (ne_of_none e fH)]
      exact hE b o e n
    · rw [upd_ne (Nat.ne_of_lt hlt), upd_same]
  | some cv =>
    obtain ⟨c', e, hco⟩ := ha pos cv hc
    subst e
    refine kla_makeFunctionHit (mg := X.mg) (c := c) (P := P) (ps := ps) (closure_ok (D.L.has I.ok)) I.ok.glob (I.mod.glob.keeps I.bk) hcode (TB.code.keeps I.bk) hP' ht hc bP fun ctv h' tk hx hsz => ?_
    have I1 : L2.Inv X pins σ H { s with heap := h', toks := tk } := I.kept hx
    have fN := I1.hok.fresh (Nat.le_refl h'.objs.size)
    refine ⟨.ref h'.objs.size, _, lam_track (c' := c') (q := X.env.qual ++ "<lambda>") I1, rfl, hyp h'.objs.size c' _ (fun b o e n => ?_) (tabs_new hT fN) fN ⟨upd_same, ?_⟩⟩
    · rw [upd_ne (ne_of_none e fN)]
      exact e
    · rw [upd_ne (ne_of_none hco fN)]
      exact hco
/-- an object that is known by what is true of it is let go -/
theorem inv_untrack {pins : List (Addr × Obj)} {σ : L2.St} {H : Hp} {s : Shared} {f : Addr} {φ : Heap → Prop} (I : L2.Inv X pins σ H s) (hf : H f = some (.ext φ)) : L2.Inv X pins σ (del H f) s := by
  have ne : ∀ {b : Addr} {o : HO}, H b = some o → (∀ ψ, o ≠ .ext ψ) → b ≠ f := fun {b o} e n z => by
    rw [z, hf] at e
    exact n φ (Option.some.inj e).symm
  have dn : ∀ {b : Addr}, H b = none → del H f b = none := fun {b} n => by
    by_cases z : b = f
    · rw [z, del_same]
    · rw [del_ne z]
      exact n
  refine ⟨I.ok, I.os, I.bare, ⟨I.base.keep, I.base.slot, fun b o e n hx => dn (I.base.free b o e n hx), I.base.there, fun b xs e => ?_, fun b o u e => ?_, fun b ps e => ?_⟩, I.loc, I.cell, dn I.free, fun x c e => dn (I.freeC x c e), fun p hp => ?_, fun b o e => ?_, I.len⟩
  · have z := I.base.tups b xs e
    rw [del_ne (ne z fun ψ q => by cases q)]
    exact z
  · have z := I.base.frzs b o u e
    rw [del_ne (ne z fun ψ q => by cases q)]
    exact z
  · obtain ⟨more, z⟩ := I.base.tbls b ps e
    exact ⟨more, by rw [del_ne (ne z fun ψ q => by cases q)]; exact z⟩
  · obtain ⟨e1, e2, e3⟩ := I.pin p hp
    exact ⟨e1, dn e2, e3⟩
  · have hb : b ≠ f := fun z => by
      rw [z, del_same] at e
      cases e
    rw [del_ne hb] at e
    exact (I.hok b o e).stay (fun c u _ q => q) (fun c q => by rw [del_ne (ne q fun ψ z => by cases z)]; exact q) fun c xs q => by rw [del_ne (ne q fun ψ z => by cases z)]; exact q
end
/-! K24R5: ### _law_heard(work) -/
/-- the two error classes, as _law_heard's clauses tell them apart -/
structure Two (P : Program) (w : World) (K : Frag) (mg : Str → Option Value) (base : Heap) (cI cR : Addr) : Prop where
  gI : mg "InvalidNumber" = some (.ref cI)
  gR : mg "Refused" = some (.ref cR)
  ii : exmOne K (.ref cI) (.ref cI) = some true
  ri : exmOne K (.ref cR) (.ref cI) = some false
  rr : exmOne K (.ref cR) (.ref cR) = some true
  fI : XfC K cI
  fR : XfC K cR
  wI : findIn K (.ref cI) "word" = some none
  wR : findIn K (.ref cR) "word" = some none
/-- what becomes of the wish: told what is returned, or the word of the error -/
def heardE (cI cR : Addr) (Q : VK) : XK := fun cls d H => ∃ (dd : Addr) (v : V), d = some dd ∧ H dd = some (.xd [("word", v)]) ∧
  ((cls = .ref cI ∧ ∀ p, H p = none → Q (.ref p) (upd H p (.tup [.str "number", v]))) ∨ (cls = .ref cR ∧ ∀ p, H p = none → Q (.ref p) (upd H p (.tup [.str "refused", v]))))
def heardQ (Q : VK) : VK := fun v H => ([.str "told", v] : List V).length ≤ sizeLine ∧ ∀ p, H p = none → Q (.ref p) (upd H p (.tup [.str "told", v]))
def tHeard (X : Cx) (cI cR : Addr) (ls : List LamD) (te : TE) : TE := fun σ H Q => te σ H fun v H1 => ∃ d ∈ ls, ∃ f c', v = .ref f ∧ LamIs X d H1 f c' ∧ ((∀ c q, H1 c = some (CodeO c q) → c ≠ f) → d.t (heardE cI cR Q) σ (del H1 f) (heardQ Q))
section
variable {X : Cx} {cI cR g : Addr} {k : Nat} {ls : List LamD} {e : Expr} {te : TE} {p pos : Pos} {fd : FuncData}
theorem pe_heard (F : Fun X.K "_law_heard" "_law_heard" s_l_heard g fd) (hm : X.mg "_law_heard" = some (.ref g)) (Tw : Two X.prog X.w X.K X.mg X.base cI cR) (hls : ∀ d ∈ ls, d.Ok X k) (hr : Room (k + 2) X.A) (hg : Gl X "_law_heard") (he : PE X e te)
    (h1 : starEach [e] X.env = (false, eval e X.env) :: starEach [] X.env := by rfl) (h2 : (backTo pos (starEach [] X.env)).any (·.1) = false := by rfl) :
    PE X (.Call (.Name "_law_heard" p) [e] [] pos) (tHeard X cI cR ls te) := by
  refine ⟨fun pins s σ H Q I hyp => ?_⟩
  have hb := F.binds (ps := ["_law_work"]) fun _ _ _ _ _ _ us hl => match us, hl with | [_], _ => rfl
  refine wpAny_Call_Name_kw (ld_glob I hg hm ?_ (by decide))
  refine callWith_K (h₀ := X.base) I.ok.mod.kin F.kp (one_arg he I hyp (fun v0 s1 v H1 I1 r1 hq => ?_) h1) h1 h2
  obtain ⟨d, hd, f, c', ev, ⟨hl, hc⟩, q⟩ := hq
  subst ev
  obtain rfl : v0 = Value.ref f := r1
  refine ⟨I1.kIn, ?_⟩
  obtain ⟨oc, od, kV, doc, pm, an, cdv, ct, osl, rfl, lk, hcd⟩ := F.ex
  have D := hls d hd
  have nfr : f ∉ frs X.stack := fun z => by
    have z2 := I1.stkFree f z
    rw [hl] at z2
    cases z2
  have ob : ObjOk X.prog X.w H1 s1.heap f (LamO f (X.env.qual ++ "<lambda>") d.params d.body d.scope (cloFrom X.env.cells d.scope.names []) c') := I1.hok f _ hl
  obtain ⟨⟨pm2, ctv2, hf⟩, _, _⟩ := ob
  have ncf : c' ≠ f := fun z => by
    have oc' : ObjOk X.prog X.w H1 s1.heap c' (CodeO c' (X.env.qual ++ "<lambda>")) := I1.hok c' _ hc
    obtain ⟨⟨oc, vs, t, e1, e2, _⟩, _, _⟩ := oc'
    rw [z, hf] at e1
    cases e1
    cases e2
  have gift : ∀ c q, H1 c = some (CodeO c q) → c ≠ f := fun c q e z => by
    have oc' : ObjOk X.prog X.w H1 s1.heap c (CodeO c q) := I1.hok c _ e
    obtain ⟨⟨oc, vs, t, e1, e2, _⟩, _, _⟩ := oc'
    rw [z, hf] at e1
    cases e1
    cases e2
  have q := q gift
  have I2 := inv_untrack I1 hl
  have hc2 : del H1 f c' = some (CodeO c' (X.env.qual ++ "<lambda>")) := by rw [del_ne ncf]; exact hc
  have rc : codeAny (model X.prog X.w) X.A (.call (.ref g) ⟨[.ref f], []⟩) (CR CX0 X.stack X.prog X.w (del H1 f) s1 Q E0) s1 := by
    refine run_ofS (N := ["_law_work", "error"]) (ps := ["_law_work"]) (us := [.ref f]) (vs := [.ref f]) lk hcd sc_l_heard hr I2.env0 (hb s1 [.ref f] I1.kIn rfl) (.cons rfl .nil) rfl fun hr' => ?_
    have nd := sc_l_heard.nd
    refine ⟨_, PSs.nox (pss_one (ps_try_asM (X := (cxOf CX0 X.prog X.w X.K X.mg X.base ["_law_work", "error"] "_law_heard" (defScope s_l_heard) g cdv X.A X.stack s1 (del H1 f) E0).nox) (n := "error") (i := 1)
        (tb := fun W D σZ HZ => ∃ Ech : XK, (∀ cls d σ' H', Ech cls d H' → W cls d σ' H') ∧ σZ[0]? = some (some (.ref f)) ∧ HZ c' = some (CodeO c' (X.env.qual ++ "<lambda>")) ∧ d.t Ech σ HZ (heardQ D.rt))
        rfl rfl nd rfl rfl L2.takes0 (fun W pn xe tk _ => ?_)
        (.cons (c := .ref cI) ⟨rfl, by decide, .inl Tw.gI⟩ (fun a oe cls d' pn hz hf' => pss_one (ps_ret (pe_tup (pa_cons pe_str (pa_cons (pe_xf Tw.fI Tw.wI hz hf' (pe_var (i := 1) rfl (.inl rfl))) pa_nil)))))
        (.cons (c := .ref cR) ⟨rfl, by decide, .inl Tw.gR⟩ (fun a oe cls d' pn hz hf' => pss_one (ps_ret (pe_tup (pa_cons pe_str (pa_cons (pe_xf Tw.fR Tw.wR hz hf' (pe_var (i := 1) rfl (.inl rfl))) pa_nil))))) .nil)))), ?_⟩
    · refine ⟨fun pins' s' σ' H' D' I' h' => ?_⟩
      obtain ⟨Ech, hW, e1, e2, e3⟩ := h'
      have hp := fun p1 p2 => pe_act (p1 := p1) (p2 := p2) (CXg := CX0) (Eg := E0) (Ng := ["_law_work", "error"]) (qg := "_law_heard") (sg := defScope s_l_heard) (g := g) (cdg := cdv) (i := 0) (a := "_law_work") I2 D.L hf del_same nfr (D.bind _ _ _ _ _) tk hW hr' (fun A outer s H hr2 => D.run A outer s H Ech f c' hr2) rfl (.inl rfl)
      exact (pss_one (ps_ret (pe_tup (pa_cons pe_str (pa_cons (hp _ _) pa_nil))))).run pins' s' σ' H' D' I' ⟨e1, e2, e3⟩
    · refine ⟨heardE cI cR Q, fun cls d' σ' H' hx => ?_, rfl, hc2, q⟩
      obtain ⟨dd, v, rfl, hdd, h3⟩ := hx
      rcases h3 with ⟨rfl, h3⟩ | ⟨rfl, h3⟩
      · refine ⟨true, Tw.ii, fun _ a na hl => ?_, fun z => by cases z⟩
        exact ⟨.ref a, by rw [List.getElem?_set_self hl], rfl, rfl, dd, _, v, rfl, hdd, rfl, (by show 2 ≤ sizeLine; decide), h3⟩
      · refine ⟨false, Tw.ri, (fun z => by cases z), fun _ => ⟨true, Tw.rr, fun _ a na hl => ?_, fun z => by cases z⟩⟩
        exact ⟨.ref a, by rw [List.getElem?_set_self hl], rfl, rfl, dd, _, v, rfl, hdd, rfl, (by show 2 ≤ sizeLine; decide), h3⟩
  refine wpAny_call (codeAny_mono rc fun r s2 hq => ?_)
  cases r with
  | error e => exact (show False from hq).elim
  | ok fl =>
    cases fl with
    | ret u => 
      obtain ⟨v, H', os, bare, un, hok, rv, q'⟩ := hq
      exact ⟨v, H', (I2.call' (ch := []) os un hok bare fun b hb => absurd hb (by simp)), rv, q'⟩
    | next => exact False.elim hq
    | brk => exact False.elim hq
    | cont => exact False.elim hq
end
end K24
/-! K24N: The small defs: whole numbers, fractions. -/
namespace K24
open PySem PySem.Spec PyProof.Rows L2
/-- the built-ins that the text calls are the built-ins -/
structure Bz (mg : Str → Option Value) : Prop where
  abs_ : mg "abs" = none
  isinst : mg "isinstance" = none
  int_ : mg "int" = none
  bool_ : mg "bool" = none
  all_ : mg "all" = none
  len_ : mg "len" = none
  tuple_ : mg "tuple" = none
  list_ : mg "list" = none
  sorted_ : mg "sorted" = none
  enum_ : mg "enumerate" = none
  range_ : mg "range" = none
  repr_ : mg "repr" = none
  vErr : mg "ValueError" = none
section
variable {P : Program} {w : World} {K : PySem.W.Frag} {mg : Str → Option Value} {base : Heap} {f : Addr} {fd : FuncData} {cI cR : Addr}
/-! K24N: ### the greatest common divisor -/
def spGcd : Sp := fun vs H Q _ => ∃ a b : Int, vs = [.int a, .int b] ∧ Q (.int (Int.gcd a b)) H
theorem fmod_nat (a : Int) {b : Int} (hb : 0 < b) : a.fmod b = a % b := Int.fmod_eq_emod_of_nonneg a (by omega)
theorem gcd_step (a b : Int) : Int.gcd b (a % b) = Int.gcd a b := by
  rw [Int.gcd_comm a b]
  have h : a % b = a - b * (a / b) := by have := Int.mul_ediv_add_emod a b; omega
  apply Nat.dvd_antisymm
  · apply Int.dvd_gcd
    · exact Int.gcd_dvd_left ..
    · have e : a = a % b + b * (a / b) := by omega
      rw [e]
      exact Int.dvd_add (by rw [← e]; exact Int.gcd_dvd_right ..) (Int.dvd_mul_of_dvd_left (by rw [← e]; exact Int.gcd_dvd_left ..))
  · apply Int.dvd_gcd
    · exact Int.gcd_dvd_left ..
    · rw [h]
      exact Int.dvd_sub (Int.gcd_dvd_right ..) (Int.dvd_mul_of_dvd_left (Int.gcd_dvd_left ..))
theorem abs_nn (a : Int) : (if a < 0 then -a else a) = (a.natAbs : Int) := by split <;> omega
theorem gcd_loop {t : TS} {c : TT} {D : Ends} {H : Hp} {rest : List (Option V)} (a b : Int)
    (ht : ∀ (x y : Int) (σ : L2.St), σ = some (.int x) :: some (.int y) :: rest → ∀ Q : Bool → Hp → Prop, c σ H Q ↔ Q (decide (0 < y)) H)
    (hb : ∀ (x y : Int) (D : Ends), 0 < y → D.nx (some (.int y) :: some (.int (x % y)) :: rest) H → t D (some (.int x) :: some (.int y) :: rest) H)
    (mono : ∀ σ H Q Q', (∀ b H1, Q b H1 → Q' b H1) → c σ H Q → c σ H Q')
    (hD : D.nx (some (.int (Int.gcd a b)) :: some (.int 0) :: rest) H) : tWhile c t D (some (.int (a.natAbs : Int)) :: some (.int (b.natAbs : Int)) :: rest) H := by
  refine while_by (fun σ H' => ∃ x y : Int, 0 ≤ x ∧ 0 ≤ y ∧ Int.gcd x y = Int.gcd a b ∧ σ = some (.int x) :: some (.int y) :: rest ∧ H' = H)
    (fun σ _ => match σ with | [_] => 0 | _ :: some (.int y) :: _ => y.toNat | _ => 0) ⟨a.natAbs, b.natAbs, by omega, by omega, by simp [Int.gcd], rfl, rfl⟩ ?_ mono
  rintro σ H' ⟨x, y, hx, hy, hg, rfl, rfl⟩
  refine (ht x y _ rfl _).mpr ?_
  by_cases h : 0 < y
  · rw [decide_eq_true h]
    refine iteT (hb x y _ h ⟨⟨y, x % y, hy, Int.emod_nonneg _ (by omega), (gcd_step x y).trans hg, rfl, rfl⟩, ?_⟩)
    have := Int.emod_lt_of_pos x h
    have := Int.emod_nonneg x (b := y) (by omega)
    show (x % y).toNat < y.toNat
    omega
  · rw [decide_eq_false h]
    refine iteF ?_
    have e : y = 0 := by omega
    subst e
    have e2 : x = ((Int.gcd a b : Nat) : Int) := by rw [← hg, Int.gcd_zero_right]; omega
    rw [e2]
    exact hD
theorem ok_shared_divisor (F : Fun K "shared_divisor" "shared_divisor" s_shared_divisor f fd) (Z : Bz mg) : FnOk P w K mg base (L2.CX P w) 1 f fd ["one", "other"] spGcd := by
  refine F.okX sc_shared_divisor (fun vs H Q E h => ?_) (fun cdv A outer s H vs Q E hr h => ?_)
  · obtain ⟨a, b, rfl, _⟩ := h
    rfl
  · obtain ⟨a, b, rfl, h⟩ := h
    have nd := sc_shared_divisor.nd
    refine ⟨_, (pss_cons (ps_par (i := 0) (j := 1) rfl nd rfl rfl (by decide) rfl rfl (pa_cons (pe_callB call_abs rfl Z.abs_ (by decide +kernel) (pa_cons (pv 0) pa_nil)) (pa_cons (pe_callB call_abs rfl Z.abs_ (by decide +kernel) (pa_cons (pv 1) pa_nil)) pa_nil)) (by rfl))
      (pss_cons (ps_while (passes_of rfl) (pt_cmpR op_gt (pv 1) pe_int (nomark _)) (pss_one (ps_par (i := 0) (j := 1) rfl nd rfl rfl (by decide) rfl rfl (pa_cons (pv 1) (pa_cons (pe_op op_modN (pv 0) (pv 1)) pa_nil)) (by rfl))))
      (pss_one (ps_ret (pv 0))))), ?_⟩
    refine ⟨_, rfl, _, rfl, _, rfl, _, rfl, _, _, rfl, ?_⟩
    rw [abs_nn, abs_nn]
    refine gcd_loop (rest := []) a b (fun x y σ e Q => ?_) (fun x y D h1 h2 => ?_) ?_ ?_
    · subst e
      exact ⟨fun ⟨_, e1, _, _, e3, e4, _, e5, q⟩ => by cases e1; cases e3; cases e4; cases e5; exact q, fun q => ⟨_, rfl, _, _, rfl, rfl, _, rfl, q⟩⟩
    · refine ⟨_, rfl, _, rfl, _, rfl, _, _, rfl, rfl, (by omega : y ≠ 0), _, _, rfl, ?_⟩
      show D.nx [some (.int y), some (.int (x.fmod y))] H
      rw [fmod_nat x h1]
      exact h2
    · rintro σ H Q Q' hq ⟨v, e1, i, j, e3, e4, k, e5, q⟩
      exact ⟨v, e1, i, j, e3, e4, k, e5, hq _ _ q⟩
    · exact ⟨_, rfl, h⟩
/-! K24N: ### fractions -/
theorem norm_fdiv {a b : Int} (hb : b ≠ 0) : (a.fdiv ((Int.gcd a b : Int) * M.sg b), b.fdiv ((Int.gcd a b : Int) * M.sg b)) = M.norm a b := by
  have h1 := M.gs_left a b
  have h2 := M.gs_right a b
  have hf := M.gs_ne (a := a) hb
  unfold M.norm
  rw [Int.fdiv_eq_ediv_of_dvd h1, Int.fdiv_eq_ediv_of_dvd h2]
theorem gs_small {a b : Int} {n : Nat} (hb : b ≠ 0) (h : b.natAbs < 2 ^ n) : ((Int.gcd a b : Int) * M.sg b).natAbs < 2 ^ n := by
  have h2 := M.gs_right a b
  exact Nat.lt_of_le_of_lt (Nat.le_of_dvd (by omega) (Int.natAbs_dvd_natAbs.mpr h2)) h
/-- a new tuple of the lowest terms -/
def spFrac : Sp := fun vs H Q _ => ∃ a b : Int, vs = [.int a, .int b] ∧ b ≠ 0 ∧ b.natAbs < 2 ^ 8000 ∧ ∀ p, H p = none → Q (.ref p) (upd H p (.tup [.int (M.norm a b).1, .int (M.norm a b).2]))
structure DN (P : Program) (w : World) (K : PySem.W.Frag) (mg : Str → Option Value) (base : Heap) : Prop where
  shared_divisor : Dn P w K mg base "shared_divisor" 1 ["one", "other"] spGcd
theorem ok_fraction_of (F : Fun K "fraction_of" "fraction_of" s_fraction_of f fd) (D : DN P w K mg base) : FnOk P w K mg base (L2.CX P w) 2 f fd ["top", "bottom"] spFrac := by
  refine F.okX sc_fraction_of (fun vs H Q E h => ?_) (fun cdv A outer s H vs Q E hr h => ?_)
  · obtain ⟨a, b, rfl, _⟩ := h
    rfl
  · obtain ⟨a, b, rfl, hb, hz, h⟩ := h
    have nd := sc_fraction_of.nd
    refine ⟨_, (pss_cons (ps_if (pt_cmpR op_eq (pv 1) pe_int (nomark _)) (pss_one ps_never) pss_nil)
      (pss_cons (ps_set (i := 2) nd rfl (Or.inl rfl) (pe_dn D.shared_divisor (hr.mono (by decide)) rfl passL (pa_cons (pv 0) (pa_cons (pv 1) pa_nil))))
      (pss_cons (ps_if (pt_cmpR op_lt (pv 1) pe_int (nomark _)) (pss_one (ps_set (i := 2) nd rfl (Or.inl rfl) (pe_un un_neg (pv 2)))) pss_nil)
      (pss_one (ps_ret (pe_tup (pa_cons (pe_op op_fdivS (pv 0) (pv 2)) (pa_cons (pe_op op_fdivS (pv 1) (pv 2)) pa_nil)))))))), ?_⟩
    refine ⟨_, rfl, rfl, _, rfl, ?_⟩
    rw [decide_eq_false (by simpa using hb)]
    refine iteF ⟨_, rfl, _, rfl, a, b, rfl, _, rfl, _, _, rfl, rfl, _, rfl, ?_⟩
    have key : ∀ g : Int, g = (Int.gcd a b : Int) * M.sg b → ∃ v, [some (V.int a), some (V.int b), some (V.int g)][0]? = some (some v) ∧ True := fun g _ => ⟨_, rfl, trivial⟩
    have fin : ∀ g : Int, g = (Int.gcd a b : Int) * M.sg b → (tRet (tTup (tCons (tOp (rI CDivS fun i j => V.int (i.fdiv j)) (tVar 0) (tVar 2)) (tCons (tOp (rI CDivS fun i j => V.int (i.fdiv j)) (tVar 1) (tVar 2)) tNil)))) { nx := fun _ H' => Q .non H', rt := Q } [some (.int a), some (.int b), some (.int g)] H := by
      rintro g rfl
      have hd := cdivS (i := a) (M.gs_ne (a := a) hb) (gs_small (a := a) hb hz) (by decide) (by decide)
      have hd2 := cdivS (i := b) (M.gs_ne (a := a) hb) (gs_small (a := a) hb hz) (by decide) (by decide)
      refine ⟨_, rfl, _, rfl, _, _, rfl, rfl, hd, _, rfl, _, rfl, _, _, rfl, rfl, hd2, (by show 2 ≤ sizeLine; decide), fun p hp => ?_⟩
      have e := norm_fdiv (a := a) hb
      show Q (.ref p) (upd H p (.tup [.int (a.fdiv ((Int.gcd a b : Int) * M.sg b)), .int (b.fdiv ((Int.gcd a b : Int) * M.sg b))]))
      rw [show a.fdiv ((Int.gcd a b : Int) * M.sg b) = (M.norm a b).1 from congrArg Prod.fst e, show b.fdiv ((Int.gcd a b : Int) * M.sg b) = (M.norm a b).2 from congrArg Prod.snd e]
      exact h p hp
    refine ite2 (fun hn => ?_) (fun hn => ?_)
    · have hn : b < 0 := of_decide_eq_true hn
      refine ⟨_, rfl, _, rfl, fin _ ?_⟩
      rw [M.sg_neg hn]
      omega
    · have hn : ¬ b < 0 := fun z => hn (decide_eq_true z)
      refine fin _ ?_
      rw [M.sg_pos (by omega), Int.mul_one]
/-! K24N: ### values of any kind -/
/-- values that the text is asked about -/
inductive Odd (K : PySem.W.Frag) (H : Hp) : V → String → Prop where
  | non : Odd K H .non "NoneType"
  | bl (b : Bool) : Odd K H (.bl b) "bool"
  | int (i : Int) : Odd K H (.int i) "int"
  | str (x : Str) : Odd K H (.str x) "str"
  | lst {a : Addr} {xs : List V} (e : H a = some (.lst xs)) : Odd K H (.ref a) "list"
  | tup {a : Addr} {xs : List V} (e : SqT K H a xs) : Odd K H (.ref a) "tuple"
theorem Odd.ty {H : Hp} {v : V} {t : String} (o : Odd K H v t) : TyX K H v (.type t) := by
  cases o with
  | non => exact .base .non
  | bl b => exact .base (.bl b)
  | int i => exact .base (.int i)
  | str x => exact .base (.str x)
  | lst e => exact .base (.lst e)
  | tup e =>
    rcases e with (h | ⟨o, h⟩) | ⟨o, its, n, h, hc, _⟩
    · exact .base (.tup h)
    · exact .fTuple h
    · exact .kTuple h hc
def isI : V → Bool
  | .int _ => true
  | _ => false
def isN : V → Bool
  | .int i => decide (0 ≤ i)
  | _ => false
def okN (v : V) (m : Int) : Bool := match v with
  | .int i => decide (0 ≤ i ∧ i ≤ m)
  | _ => false
def spIsInt (K : PySem.W.Frag) : Sp := fun vs H Q _ => ∃ v t, vs = [v] ∧ Odd K H v t ∧ Q (.bl (isI v)) H
theorem ok_is_integer (F : Fun K "is_integer" "is_integer" s_is_integer f fd) (Z : Bz mg) : FnOk P w K mg base (L2.CX P w) 1 f fd ["value"] (spIsInt K) := by
  refine F.okX sc_is_integer (fun vs H Q E h => ?_) (fun cdv A outer s H vs Q E hr h => ?_)
  · obtain ⟨v, t, rfl, _⟩ := h
    rfl
  · obtain ⟨v, t, rfl, o, h⟩ := h
    refine ⟨_, (pss_one (ps_ret (pe_and (pe_callB call_isi rfl Z.isinst (by decide +kernel) (pa_cons (pv 0) (pa_cons (pe_bltn (v := .ty "int") (u := .type "int") (by rfl) Z.int_ (by decide +kernel) rfl) pa_nil))) (pe_one (pe_not (pe_callB call_isi rfl Z.isinst (by decide +kernel) (pa_cons (pv 0) (pa_cons (pe_bltn (v := .ty "bool") (u := .type "bool") (by rfl) Z.bool_ (by decide +kernel) rfl) pa_nil)))))))), ?_⟩
    refine ⟨_, rfl, v, .ty "int", .type t, .type "int", (t == "int" || t == "bool"), rfl, .ty _, o.ty, ?_, _, rfl, ?_⟩
    · cases o <;> exact kit_ty (by decide +kernel)
    · cases o with
      | int i => exact iteT ⟨_, rfl, _, .ty "bool", .type "int", .type "bool", false, rfl, .ty _, (Odd.int i).ty, kit_ty (by decide +kernel), _, rfl, h⟩
      | bl b => exact iteT ⟨_, rfl, _, .ty "bool", .type "bool", .type "bool", true, rfl, .ty _, (Odd.bl b).ty, kit_ty (by decide +kernel), _, rfl, h⟩
      | _ => exact iteF h
def spIsNum (K : PySem.W.Frag) : Sp := fun vs H Q _ => ∃ v t, vs = [v] ∧ Odd K H v t ∧ Q (.bl (isN v)) H
structure DI (P : Program) (w : World) (K : PySem.W.Frag) (mg : Str → Option Value) (base : Heap) : Prop where
  is_integer : Dn P w K mg base "is_integer" 1 ["value"] (spIsInt K)
theorem ok_is_number (F : Fun K "is_number" "is_number" s_is_number f fd) (D : DI P w K mg base) : FnOk P w K mg base (L2.CX P w) 2 f fd ["value"] (spIsNum K) := by
  refine F.okX sc_is_number (fun vs H Q E h => ?_) (fun cdv A outer s H vs Q E hr h => ?_)
  · obtain ⟨v, t, rfl, _⟩ := h
    rfl
  · obtain ⟨v, t, rfl, o, h⟩ := h
    refine ⟨_, (pss_one (ps_ret (pe_and (pe_dn D.is_integer (hr.mono (by decide)) rfl passL (pa_cons (pv 0) pa_nil)) (pe_one (pe_cmpR op_ge (pv 0) pe_int (nomark _)))))), ?_⟩
    refine ⟨_, rfl, v, t, rfl, o, _, rfl, ?_⟩
    cases o with
    | int i => exact iteT ⟨_, rfl, _, _, rfl, rfl, h⟩
    | _ => exact iteF h
/-- an own error of the class C, its word w, all that stood stands -/
def Err (C : Addr) (x : Str) (H : Hp) (E : XK) : Prop := ∀ d H', H d = none → Same H H' → H' d = some (.xd [("word", .str x)]) → E (.ref C) (some d) H'
def spNeed (K : PySem.W.Frag) (cI : Addr) : Sp := fun vs H Q E => ∃ (v : V) (t : String) (m : Int) (x : Str), vs = [v, .int m, .str x] ∧ Odd K H v t ∧ (okN v m = true → Q .non H) ∧ (okN v m = false → Err cI x H E)
structure DQ (P : Program) (w : World) (K : PySem.W.Frag) (mg : Str → Option Value) (base : Heap) (cI cR : Addr) : Prop where
  is_number : Dn P w K mg base "is_number" 2 ["value"] (spIsNum K)
  InvalidNumber : De P w K mg base "InvalidNumber" cI
  Refused : De P w K mg base "Refused" cR
theorem ok_need_number (F : Fun K "need_number" "need_number" s_need_number f fd) (D : DQ P w K mg base cI cR) : FnOk P w K mg base (L2.CX P w) 3 f fd ["value", "most", "word"] (spNeed K cI) := by
  refine F.okX sc_need_number (fun vs H Q E h => ?_) (fun cdv A outer s H vs Q E hr h => ?_)
  · obtain ⟨v, t, m, x, rfl, _⟩ := h
    rfl
  · obtain ⟨v, t, m, x, rfl, o, h1, h2⟩ := h
    refine ⟨_, (pss_one (ps_if (PW.pt (pw_or (pt_not (pt_val (pe_dn D.is_number (hr.mono (by decide)) rfl passL (pa_cons (pv 0) pa_nil)))) (pw_or1 (pt_cmpR op_gt (pv 0) (pv 1) (nomark _))))) (pss_one (ps_err D.InvalidNumber rfl (takes_of rfl rfl rfl rfl) (hr.mono (by decide)) rfl (pv 2))) pss_nil)), ?_⟩
    refine ⟨_, rfl, v, t, rfl, o, _, rfl, ?_⟩
    have bad : okN v m = false → (tMkO cI (spErr cI) [] (tCons (tVar 2) tNil) [some v, some (.int m), some (.str x)] H fun cls d H' => E cls d H') := fun z => ⟨_, rfl, err_leaf fun d H' => h2 z d H'⟩
    cases o with
    | int i =>
      by_cases h0 : 0 ≤ i
      · rw [show isN (.int i) = true from decide_eq_true h0]
        refine iteF ⟨_, rfl, _, rfl, _, _, rfl, rfl, _, rfl, ?_⟩
        by_cases h3 : m < i
        · rw [decide_eq_true h3]
          exact iteT (bad (decide_eq_false (by omega)))
        · rw [decide_eq_false h3]
          exact iteF (h1 (decide_eq_true (by omega)))
      · rw [show isN (.int i) = false from decide_eq_false h0]
        exact iteT (bad (decide_eq_false (by omega)))
    | _ => exact iteT (bad rfl)
/-! K24N: ### fractions compared, added, multiplied -/
abbrev Fr := Int × Int
/-- at a: this fraction -/
def FrA (K : PySem.W.Frag) (H : Hp) (a : Addr) (q : Fr) : Prop := SqT K H a [.int q.1, .int q.2]
def Sm (q : Fr) : Prop := q.1.natAbs < 2 ^ 1500 ∧ q.2.natAbs < 2 ^ 1500
def lessF (p q : Fr) : Bool := decide (p.1 * q.2 < q.1 * p.2)
def addF (p q : Fr) : Fr := M.norm (p.1 * q.2 + q.1 * p.2) (p.2 * q.2)
def mulF (p q : Fr) : Fr := M.norm (p.1 * q.1) (p.2 * q.2)
def spLess (K : PySem.W.Frag) : Sp := fun vs H Q _ => ∃ (a b : Addr) (p q : Fr), vs = [.ref a, .ref b] ∧ FrA K H a p ∧ FrA K H b q ∧ Sm p ∧ Sm q ∧ Q (.bl (lessF p q)) H
theorem sm_mul {i j : Int} (h : i.natAbs < 2 ^ 1500) (h' : j.natAbs < 2 ^ 1500) : CMulW i j := wide_mul h h' (by decide) (by decide) (by decide)
theorem ok_is_less (F : Fun K "is_less" "is_less" s_is_less f fd) : FnOk P w K mg base (L2.CX P w) 1 f fd ["one", "other"] (spLess K) := by
  refine F.okX sc_is_less (fun vs H Q E h => ?_) (fun cdv A outer s H vs Q E hr h => ?_)
  · obtain ⟨a, b, p, q, rfl, _⟩ := h
    rfl
  · obtain ⟨a, b, p, q, rfl, ha, hb, sp, sq, h⟩ := h
    refine ⟨_, (pss_one (ps_ret (pe_cmpR op_lt (pe_op op_mulW (pe_ix (r := rIxT K) ix_tup (pv 0) pe_int (fun _ _ => rfl)) (pe_ix (r := rIxT K) ix_tup (pv 1) pe_int (fun _ _ => rfl))) (pe_op op_mulW (pe_ix (r := rIxT K) ix_tup (pv 1) pe_int (fun _ _ => rfl)) (pe_ix (r := rIxT K) ix_tup (pv 0) pe_int (fun _ _ => rfl))) (nomark _)))), ?_⟩
    exact ⟨_, rfl, a, _, _, _, rfl, rfl, ha, atI_nat (j := 0) rfl, _, rfl, b, _, _, _, rfl, rfl, hb, atI_nat (j := 1) rfl, _, _, rfl, rfl, sm_mul sp.1 sq.2, _, rfl, b, _, _, _, rfl, rfl, hb, atI_nat (j := 0) rfl, _, rfl, a, _, _, _, rfl, rfl, ha, atI_nat (j := 1) rfl, _, _, rfl, rfl, sm_mul sq.1 sp.2, _, _, rfl, rfl, h⟩
def spF2 (K : PySem.W.Frag) (g : Fr → Fr → Fr) : Sp := fun vs H Q _ => ∃ (a b : Addr) (p q : Fr), vs = [.ref a, .ref b] ∧ FrA K H a p ∧ FrA K H b q ∧ Sm p ∧ Sm q ∧ p.2 ≠ 0 ∧ q.2 ≠ 0 ∧ ∀ t, H t = none → Q (.ref t) (upd H t (.tup [.int (g p q).1, .int (g p q).2]))
theorem sm_prod {i j : Int} (h : i.natAbs < 2 ^ 1500) (h' : j.natAbs < 2 ^ 1500) : (i * j).natAbs < 2 ^ 8000 := by
  rw [Int.natAbs_mul]
  refine Nat.lt_of_lt_of_le (Nat.mul_lt_mul'' h h') ?_
  rw [← Nat.pow_add]
  exact Nat.pow_le_pow_right (by decide) (by decide)
structure DF (P : Program) (w : World) (K : PySem.W.Frag) (mg : Str → Option Value) (base : Heap) : Prop where
  fraction_of : Dn P w K mg base "fraction_of" 2 ["top", "bottom"] spFrac
theorem ok_added (F : Fun K "added" "added" s_added f fd) (D : DF P w K mg base) : FnOk P w K mg base (L2.CX P w) 3 f fd ["one", "other"] (spF2 K addF) := by
  refine F.okX sc_added (fun vs H Q E h => ?_) (fun cdv A outer s H vs Q E hr h => ?_)
  · obtain ⟨a, b, p, q, rfl, _⟩ := h
    rfl
  · obtain ⟨a, b, p, q, rfl, ha, hb, sp, sq, np, nq, h⟩ := h
    refine ⟨_, (pss_one (ps_ret (pe_dn D.fraction_of (hr.mono (by decide)) rfl passL (pa_cons (pe_op op_add (pe_op op_mulW (pe_ix (r := rIxT K) ix_tup (pv 0) pe_int (fun _ _ => rfl)) (pe_ix (r := rIxT K) ix_tup (pv 1) pe_int (fun _ _ => rfl))) (pe_op op_mulW (pe_ix (r := rIxT K) ix_tup (pv 1) pe_int (fun _ _ => rfl)) (pe_ix (r := rIxT K) ix_tup (pv 0) pe_int (fun _ _ => rfl)))) (pa_cons (pe_op op_mulW (pe_ix (r := rIxT K) ix_tup (pv 0) pe_int (fun _ _ => rfl)) (pe_ix (r := rIxT K) ix_tup (pv 1) pe_int (fun _ _ => rfl))) pa_nil))))), ?_⟩
    exact ⟨_, rfl, a, _, _, _, rfl, rfl, ha, atI_nat (j := 0) rfl, _, rfl, b, _, _, _, rfl, rfl, hb, atI_nat (j := 1) rfl, _, _, rfl, rfl, sm_mul sp.1 sq.2,
      _, rfl, b, _, _, _, rfl, rfl, hb, atI_nat (j := 0) rfl, _, rfl, a, _, _, _, rfl, rfl, ha, atI_nat (j := 1) rfl, _, _, rfl, rfl, sm_mul sq.1 sp.2, _, _, rfl, rfl,
      _, rfl, a, _, _, _, rfl, rfl, ha, atI_nat (j := 1) rfl, _, rfl, b, _, _, _, rfl, rfl, hb, atI_nat (j := 1) rfl, _, _, rfl, rfl, sm_mul sp.2 sq.2, _, _, rfl, Int.mul_ne_zero np nq, sm_prod sp.2 sq.2, h⟩
theorem ok_timed (F : Fun K "timed" "timed" s_timed f fd) (D : DF P w K mg base) : FnOk P w K mg base (L2.CX P w) 3 f fd ["one", "other"] (spF2 K mulF) := by
  refine F.okX sc_timed (fun vs H Q E h => ?_) (fun cdv A outer s H vs Q E hr h => ?_)
  · obtain ⟨a, b, p, q, rfl, _⟩ := h
    rfl
  · obtain ⟨a, b, p, q, rfl, ha, hb, sp, sq, np, nq, h⟩ := h
    refine ⟨_, (pss_one (ps_ret (pe_dn D.fraction_of (hr.mono (by decide)) rfl passL (pa_cons (pe_op op_mulW (pe_ix (r := rIxT K) ix_tup (pv 0) pe_int (fun _ _ => rfl)) (pe_ix (r := rIxT K) ix_tup (pv 1) pe_int (fun _ _ => rfl))) (pa_cons (pe_op op_mulW (pe_ix (r := rIxT K) ix_tup (pv 0) pe_int (fun _ _ => rfl)) (pe_ix (r := rIxT K) ix_tup (pv 1) pe_int (fun _ _ => rfl))) pa_nil))))), ?_⟩
    exact ⟨_, rfl, a, _, _, _, rfl, rfl, ha, atI_nat (j := 0) rfl, _, rfl, b, _, _, _, rfl, rfl, hb, atI_nat (j := 0) rfl, _, _, rfl, rfl, sm_mul sp.1 sq.1,
      _, rfl, a, _, _, _, rfl, rfl, ha, atI_nat (j := 1) rfl, _, rfl, b, _, _, _, rfl, rfl, hb, atI_nat (j := 1) rfl, _, _, rfl, rfl, sm_mul sp.2 sq.2, _, _, rfl, Int.mul_ne_zero np nq, sm_prod sp.2 sq.2, h⟩
def spWhole : Sp := fun vs H Q _ => ∃ n : Int, vs = [.int n] ∧ ∀ p, H p = none → Q (.ref p) (upd H p (.tup [.int n, .int 1]))
theorem ok_whole (F : Fun K "whole" "whole" s_whole f fd) : FnOk P w K mg base (L2.CX P w) 1 f fd ["number"] spWhole := by
  refine F.okX sc_whole (fun vs H Q E h => ?_) (fun cdv A outer s H vs Q E hr h => ?_)
  · obtain ⟨n, rfl, _⟩ := h
    rfl
  · obtain ⟨n, rfl, h⟩ := h
    refine ⟨_, (pss_one (ps_ret (pe_tup (pa_cons (pv 0) (pa_cons pe_int pa_nil))))), ?_⟩
    exact ⟨_, rfl, (by show 2 ≤ sizeLine; decide), h⟩
end
end K24
/-! K24F: is_fraction, between_ends, are_crossed; small helpers. -/
namespace K24
open PySem PySem.Spec PyProof.Rows L2
theorem same_new {H : Hp} {a : Addr} {o : HO} (h : H a = none) : Same H (upd H a o) := fun b u e => by rw [upd_ne (ne_of_none e h)]; exact e
theorem same_put {H H' : Hp} {a : Addr} {o : HO} (s : Same H H') (h : H a = none) : Same H (upd H' a o) := fun b u e => by rw [upd_ne (ne_of_none e h)]; exact s b u e
theorem same_tup {K : PySem.W.Frag} {H H' : Hp} {a : Addr} {xs : List V} (s : Same H H') (h : SqT K H a xs) : SqT K H' a xs := by
  rcases h with (h | ⟨o, h⟩) | h
  · exact .inl (.inl (s _ _ h))
  · exact .inl (.inr ⟨o, s _ _ h⟩)
  · exact .inr h
theorem Odd.same {K : PySem.W.Frag} {H H' : Hp} {v : V} {t : String} (o : Odd K H v t) (s : Same H H') : Odd K H' v t := by
  cases o with
  | non => exact .non
  | bl b => exact .bl b
  | int i => exact .int i
  | str x => exact .str x
  | lst e => exact .lst (s _ _ e)
  | tup e => exact .tup (same_tup s e)
theorem take_snoc {α : Type} {xs : List α} {i : Nat} {x : α} (h : xs[i]? = some x) : xs.take (i + 1) = xs.take i ++ [x] := by
  rw [List.take_add_one, h]
  rfl
theorem take_all {α : Type} (xs : List α) : xs.take xs.length = xs := List.take_length
section
variable {P : Program} {w : World} {K : PySem.W.Frag} {mg : Str → Option Value} {base : Heap} {f : Addr} {fd : FuncData} {cI cR : Addr}
/-- the turns of a list comprehension that maps a tuple, nothing else written -/
theorem lc_mapT {a : Addr} {xs : List V} {g : V → V} {i : Nat} {te : TE} {σ : L2.St} {H : Hp} {D : Addr} {Qd : Hp → Prop} (hD : H D = none) (hx : SqT K H a xs) (hz : xs.length < sizeLine)
    (he : ∀ x ∈ xs, ∀ H', Same H H' → ∀ Q : VK, Q (g x) H' → te ((wipe σ [i]).set i (some x)) H' Q) (hd : ∀ H', Same H H' → H' D = some (.lst (xs.map g)) → Qd H')
    (hw : wipe (σ.set i none) [i] = wipe σ [i]) (hw2 : ∀ x : V, wipe ((wipe σ [i]).set i (some x)) [i] = wipe σ [i]) :
    ∃ W : Nat → Nat → Hp → Prop, (∃ m, W 0 m (upd H D (.lst []))) ∧ ∀ j m H, W j m H →
      ((Itt K a).stop j H ∧ Qd H) ∨ ((Itt K a).go j H ∧ ∃ Nx : Hp → Prop, (∀ H', Nx H' → ∃ m', m' < m ∧ W (j + 1) m' H') ∧ ∀ x H', (Itt K a).yld j H x H' → gName i x (wipe σ [i]) H' fun σ2 H2 => wipe σ2 [i] = wipe σ [i] ∧ tYes σ2 H2 fun b H3 =>
        if b = true then te σ2 H3 fun y H4 => ∃ acc, H4 D = some (.lst acc) ∧ acc.length < sizeLine ∧ Nx (upd H4 D (.lst (acc ++ [y]))) else Nx H3) := by
  refine lc_tup (K := K) (xs := xs) (fun j H' => Same H H' ∧ H' D = some (.lst ((xs.take j).map g))) ⟨same_new hD, upd_same⟩ (fun j H' _ p => same_tup p.1 hx) ?_ ?_
  · rintro j x H' hj ⟨s1, h1⟩
    refine ⟨hw2 x, ?_⟩
    refine iteT (B := Same H H' ∧ H' D = some (.lst ((xs.take (j + 1)).map g))) ?_
    refine he x (List.mem_of_getElem? hj) H' s1 _ ⟨_, h1, ?_, same_put s1 hD, ?_⟩
    · rw [List.length_map]
      exact Nat.lt_of_le_of_lt (List.length_take_le' ..) hz
    · rw [upd_same, take_snoc hj, List.map_append]
      rfl
  · rintro H' ⟨s1, h1⟩
    rw [take_all] at h1
    exact hd H' s1 h1
/-! K24F: ### is_fraction -/
def frT : List V → Bool
  | [.int a, .int b] => decide (0 < b) && decide (Int.gcd a b = 1)
  | _ => false
def FrC (K : PySem.W.Frag) (H : Hp) (v : V) (b : Bool) : Prop := (∃ t, Odd K H v t ∧ t ≠ "tuple" ∧ b = false) ∨ (∃ a xs, v = .ref a ∧ SqT K H a xs ∧ xs.length < sizeLine ∧ (∀ x ∈ xs, ∃ t, Odd K H x t) ∧ b = frT xs)
def spIsFr (K : PySem.W.Frag) : Sp := fun vs H Q _ => ∃ v b, vs = [v] ∧ FrC K H v b ∧ ∀ H', Same H H' → Q (.bl b) H'
structure DG (P : Program) (w : World) (K : PySem.W.Frag) (mg : Str → Option Value) (base : Heap) : Prop where
  is_integer : Dn P w K mg base "is_integer" 1 ["value"] (spIsInt K)
  shared_divisor : Dn P w K mg base "shared_divisor" 1 ["one", "other"] spGcd
theorem ok_is_fraction (F : Fun K "is_fraction" "is_fraction" s_is_fraction f fd) (D : DG P w K mg base) (Z : Bz mg) : FnOk P w K mg base (L2.CX P w) 2 f fd ["value"] (spIsFr K) := by
  refine F.okX sc_is_fraction (fun vs H Q E h => ?_) (fun cdv A outer s H vs Q E hr h => ?_)
  · obtain ⟨v, b, rfl, _⟩ := h
    rfl
  · obtain ⟨v, b, rfl, hv, h⟩ := h
    have nd := sc_is_fraction.nd
    refine ⟨_, (pss_cons (ps_if (PW.pt (pw_or (pt_not (pt_val (pe_callB call_isi rfl Z.isinst (by decide +kernel) (pa_cons (pv 0) (pa_cons (pe_bltn (v := .ty "tuple") (u := .type "tuple") (by rfl) Z.tuple_ (by decide +kernel) rfl) pa_nil))))) (pw_or (pt_cmpR op_ne (pe_callB call_len_seq rfl Z.len_ PySem.boot_len (pa_cons (pv 0) pa_nil)) pe_int (nomark _)) (pw_or1 (pt_not (pt_val (pe_callB (cr_all rfl) rfl Z.all_ (by decide +kernel) (pa_cons (pe_lc (own := [("item", 1)]) rfl nd (pi_tup (pv 0)) (blkOk_by (N := ["value", "item"]) (sc := defScope s_is_fraction) (by decide +kernel)) (fun _ _ _ _ _ => (pg_name (i := 1) nd rfl (Or.inl rfl))) (fun _ _ _ _ _ => pts_nil) (fun _ _ _ _ _ => (pe_dn D.is_integer (hr.mono (by decide)) rfl passL (pa_cons (pv 1) pa_nil)))) pa_nil)))))))) (pss_one (ps_ret pe_bl)) pss_nil)
      (pss_one (ps_ret (pe_and (pe_cmpR op_gt (pe_ix (r := rIxT K) ix_tup (pv 0) pe_int (fun _ _ => rfl)) pe_int (nomark _)) (pe_one (pe_cmpR op_eq (pe_dn D.shared_divisor (hr.mono (by decide)) rfl passL (pa_cons (pe_ix (r := rIxT K) ix_tup (pv 0) pe_int (fun _ _ => rfl)) (pa_cons (pe_ix (r := rIxT K) ix_tup (pv 0) pe_int (fun _ _ => rfl)) pa_nil))) pe_int (nomark _))))))), ?_⟩
    rcases hv with ⟨t, o, ht, rfl⟩ | ⟨a, xs, rfl, hx, hz, hi, rfl⟩
    · refine ⟨_, rfl, v, .ty "tuple", .type t, .type "tuple", false, rfl, .ty _, o.ty, ?_, _, rfl, ?_⟩
      · cases o with
        | tup e => exact absurd rfl ht
        | _ => exact kit_ty (by decide +kernel)
      · exact iteT (h H (Same.refl H))
    · refine ⟨_, rfl, .ref a, .ty "tuple", .type "tuple", .type "tuple", true, rfl, .ty _, (Odd.tup hx).ty, kit_ty (by decide +kernel), _, rfl, ?_⟩
      refine iteF ⟨_, rfl, a, xs, rfl, .inr hx, rfl, _, rfl, ?_⟩
      by_cases hl : xs.length = 2
      · obtain ⟨x, y, rfl⟩ : ∃ x y, xs = [x, y] := by
          match xs, hl with
          | [x, y], _ => exact ⟨x, y, rfl⟩
        rw [show (!decide (V.int ((([x, y] : List V).length : Nat) : Int) = V.int 2)) = false from rfl]
        refine iteF ⟨_, rfl, a, rfl, ⟨_, hx⟩, fun D hD => lc_mapT (i := 1) (g := fun x => V.bl (isI x)) hD hx hz (fun x hx' H' s' Q q => ?_) (fun H' s' hD' => ?_) rfl (fun _ => rfl)⟩
        · obtain ⟨t, o⟩ := hi x hx'
          exact ⟨x, rfl, x, t, rfl, o.same s', q⟩
        · refine ⟨D, [isI x, isI y], rfl, SqL.of hD', _, rfl, ?_⟩
          have hx' := same_tup s' hx
          obtain ⟨tx, ox⟩ := hi x (by simp)
          obtain ⟨ty, oy⟩ := hi y (by simp)
          by_cases h1 : isI x = true ∧ isI y = true
          · obtain ⟨h1, h2⟩ := h1
            obtain ⟨i, rfl⟩ : ∃ i, x = .int i := by
              cases x with
              | int i => exact ⟨i, rfl⟩
              | _ => exact absurd h1 (by simp [isI])
            obtain ⟨j, rfl⟩ : ∃ j, y = .int j := by
              cases y with
              | int i => exact ⟨i, rfl⟩
              | _ => exact absurd h2 (by simp [isI])
            refine iteF ⟨_, rfl, a, _, _, _, rfl, rfl, hx', atI_nat (j := 1) rfl, _, _, rfl, rfl, _, rfl, ?_⟩
            have hh : ∀ b, b = frT [.int i, .int j] → Q (.bl b) H' := fun b e => by rw [e]; exact h H' s'
            refine ite2 (fun hp => ?_) (fun hp => hh _ ?_)
            · refine ⟨_, rfl, a, _, _, _, rfl, rfl, hx', atI_nat (j := 0) rfl, _, rfl, a, _, _, _, rfl, rfl, hx', atI_nat (j := 1) rfl, i, j, rfl, rfl, hh _ ?_⟩
              show decide (V.int ((Int.gcd i j : Nat) : Int) = V.int 1) = _
              have e : (V.int ((Int.gcd i j : Nat) : Int) = V.int 1) ↔ Int.gcd i j = 1 := ⟨fun z => by have := V.int.inj z; omega, fun z => by rw [z]; rfl⟩
              rw [decide_eq_decide.mpr e]
              show _ = (decide (0 < j) && decide (Int.gcd i j = 1))
              rw [hp]
              rfl
            · show _ = (decide (0 < j) && decide (Int.gcd i j = 1))
              rw [show decide (0 < j) = false from by simpa using hp]
              rfl
          · have e : (([isI x, isI y] : List Bool).all id) = false := by
              cases h3 : isI x <;> cases h4 : isI y <;> simp_all
            rw [e]
            refine iteT ?_
            have e2 : frT [x, y] = false := by
              cases x with
              | int i =>
                cases y with
                | int j => exact absurd ⟨rfl, rfl⟩ h1
                | _ => rfl
              | _ => rfl
            rw [e2] at h
            exact h H' s'
      · rw [show (!decide (V.int ((xs.length : Nat) : Int) = V.int 2)) = true from by
          have : ¬ (V.int ((xs.length : Nat) : Int) = V.int 2) := fun z => hl (by have := V.int.inj z; omega)
          rw [decide_eq_false this]
          rfl]
        refine iteT ?_
        have e2 : frT xs = false := by
          unfold frT
          split
          · exact absurd rfl hl
          · rfl
        rw [e2] at h
        exact h H (Same.refl H)
/-! K24F: ### ends -/
/-- an end: None, or a fraction -/
def EndV (K : PySem.W.Frag) (H : Hp) (x : V) : Option Fr → Prop
  | none => x = .non
  | some q => ∃ a, x = .ref a ∧ FrA K H a q
def betw (v : Fr) (e : Option Fr × Option Fr) : Fr :=
  match e.1 with
  | some l => if lessF v l = true then l else (match e.2 with
    | some h => if lessF h v = true then h else v
    | none => v)
  | none => (match e.2 with
    | some h => if lessF h v = true then h else v
    | none => v)
def SmO : Option Fr → Prop
  | none => True
  | some q => Sm q
/-- at a: a pair of ends -/
def EndsA (K : PySem.W.Frag) (H : Hp) (a : Addr) (e : Option Fr × Option Fr) : Prop := ∃ x y, SqT K H a [x, y] ∧ EndV K H x e.1 ∧ EndV K H y e.2
theorem FrA.same {H H' : Hp} {a : Addr} {q : Fr} (h : FrA K H a q) (s : Same H H') : FrA K H' a q := same_tup s h
theorem EndV.same {H H' : Hp} {x : V} {o : Option Fr} (h : EndV K H x o) (s : Same H H') : EndV K H' x o := by
  cases o with
  | none => exact h
  | some q =>
    obtain ⟨a, e, h⟩ := h
    exact ⟨a, e, h.same s⟩
theorem EndsA.same {H H' : Hp} {a : Addr} {e : Option Fr × Option Fr} (h : EndsA K H a e) (s : Same H H') : EndsA K H' a e := by
  obtain ⟨x, y, h1, h2, h3⟩ := h
  exact ⟨x, y, same_tup s h1, h2.same s, h3.same s⟩
def spBetw (K : PySem.W.Frag) : Sp := fun vs H Q _ => ∃ (a b : Addr) (v : Fr) (e : Option Fr × Option Fr), vs = [.ref a, .ref b] ∧ FrA K H a v ∧ EndsA K H b e ∧ Sm v ∧ SmO e.1 ∧ SmO e.2 ∧ ∀ r, FrA K H r (betw v e) → Q (.ref r) H
structure DL (P : Program) (w : World) (K : PySem.W.Frag) (mg : Str → Option Value) (base : Heap) : Prop where
  is_less : Dn P w K mg base "is_less" 1 ["one", "other"] (spLess K)
theorem ok_between_ends (F : Fun K "between_ends" "between_ends" s_between_ends f fd) (D : DL P w K mg base) : FnOk P w K mg base (L2.CX P w) 2 f fd ["value", "ends"] (spBetw K) := by
  refine F.okX sc_between_ends (fun vs H Q E h => ?_) (fun cdv A outer s H vs Q E hr h => ?_)
  · obtain ⟨a, b, v, e, rfl, _⟩ := h
    rfl
  · obtain ⟨a, b, v, ⟨lo, hi⟩, rfl, ha, ⟨x, y, hb, hx, hy⟩, sv, sl, sh, h⟩ := h
    have nd := sc_between_ends.nd
    refine ⟨_, (pss_cons (ps_asg (pv 1) (pg_tupK (K := K) rfl (pgs_cons (pg_name (i := 2) nd rfl (Or.inl rfl)) (pgs_cons (pg_name (i := 3) nd rfl (Or.inl rfl)) pgs_nil)) (by rfl)))
      (pss_cons (ps_if (PW.pt (pw_and (pt_cmpR op_notN (pv 2) pe_non (nomark _)) (pw_and1 (pt_val (pe_dn D.is_less (hr.mono (by decide)) rfl passL (pa_cons (pv 0) (pa_cons (pv 2) pa_nil))))))) (pss_one (ps_ret (pv 2))) pss_nil)
      (pss_cons (ps_if (PW.pt (pw_and (pt_cmpR op_notN (pv 3) pe_non (nomark _)) (pw_and1 (pt_val (pe_dn D.is_less (hr.mono (by decide)) rfl passL (pa_cons (pv 3) (pa_cons (pv 0) pa_nil))))))) (pss_one (ps_ret (pv 3))) pss_nil)
      (pss_one (ps_ret (pv 0)))))), ?_⟩
    refine ⟨_, rfl, b, _, rfl, hb, rfl, x, _, rfl, y, _, rfl, rfl, ?_⟩
    have high : ∀ q : Fr, betw v (lo, hi) = q → ∀ r, FrA K H r q → Q (.ref r) H := fun q e r hr => h r (by rw [e]; exact hr)
    cases lo with
    | none =>
      obtain rfl : x = V.non := hx
      refine ⟨_, rfl, rfl, _, rfl, iteF ?_⟩
      cases hi with
      | none =>
        obtain rfl : y = V.non := hy
        exact ⟨_, rfl, rfl, _, rfl, iteF ⟨_, rfl, high v rfl a ha⟩⟩
      | some q =>
        obtain ⟨pb, rfl, hpb⟩ := hy
        refine ⟨_, rfl, rfl, _, rfl, iteT ⟨_, rfl, _, rfl, pb, a, q, v, rfl, hpb, ha, sh, sv, _, rfl, ?_⟩⟩
        refine ite2 (fun e => ⟨_, rfl, high q ?_ pb hpb⟩) (fun e => ⟨_, rfl, high v ?_ a ha⟩)
        · show (if lessF q v = true then q else v) = q
          rw [if_pos e]
        · show (if lessF q v = true then q else v) = v
          rw [if_neg e]
    | some l =>
      obtain ⟨pa, rfl, hpa⟩ := hx
      refine ⟨_, rfl, rfl, _, rfl, iteT ⟨_, rfl, _, rfl, a, pa, v, l, rfl, ha, hpa, sv, sl, _, rfl, ?_⟩⟩
      refine ite2 (fun e => ⟨_, rfl, high l ?_ pa hpa⟩) (fun e => ?_)
      · show (if lessF v l = true then l else _) = l
        rw [if_pos e]
      · cases hi with
        | none =>
          obtain rfl : y = V.non := hy
          refine ⟨_, rfl, rfl, _, rfl, iteF ⟨_, rfl, high v ?_ a ha⟩⟩
          show (if lessF v l = true then l else v) = v
          rw [if_neg e]
        | some q =>
          obtain ⟨pb, rfl, hpb⟩ := hy
          refine ⟨_, rfl, rfl, _, rfl, iteT ⟨_, rfl, _, rfl, pb, a, q, v, rfl, hpb, ha, sh, sv, _, rfl, ?_⟩⟩
          refine ite2 (fun e2 => ⟨_, rfl, high q ?_ pb hpb⟩) (fun e2 => ⟨_, rfl, high v ?_ a ha⟩)
          · show (if lessF v l = true then l else if lessF q v = true then q else v) = q
            rw [if_neg e, if_pos e2]
          · show (if lessF v l = true then l else if lessF q v = true then q else v) = v
            rw [if_neg e, if_neg e2]
/-- None or not, as the text asks -/
theorem endV_non {H : Hp} {x : V} : ∀ {o : Option Fr}, EndV K H x o → decide (x = .non) = o.isNone
  | none, e => by rw [show x = V.non from e]; rfl
  | some q, ⟨a, e, _⟩ => by rw [e]; rfl
def spCross (K : PySem.W.Frag) : Sp := fun vs H Q _ => ∃ (b : Addr) (y : V), vs = [.ref b] ∧ SqT K H b [.non, y] ∧ Q (.bl false) H
theorem ok_are_crossed (F : Fun K "are_crossed" "are_crossed" s_are_crossed f fd) (D : DL P w K mg base) : FnOk P w K mg base (L2.CX P w) 2 f fd ["ends"] (spCross K) := by
  refine F.okX sc_are_crossed (fun vs H Q E h => ?_) (fun cdv A outer s H vs Q E hr h => ?_)
  · obtain ⟨b, y, rfl, _⟩ := h
    rfl
  · obtain ⟨b, y, rfl, hb, h⟩ := h
    refine ⟨_, (pss_one (ps_ret (pe_and (pe_cmp (pc_notN (pe_ix (r := rIxT K) ix_tup (pv 0) pe_int (fun _ _ => rfl))) rfl) (pe_and (pe_cmp (pc_notN (pe_ix (r := rIxT K) ix_tup (pv 0) pe_int (fun _ _ => rfl))) rfl) (pe_one (pe_dn D.is_less (hr.mono (by decide)) rfl passL (pa_cons (pe_ix (r := rIxT K) ix_tup (pv 0) pe_int (fun _ _ => rfl)) (pa_cons (pe_ix (r := rIxT K) ix_tup (pv 0) pe_int (fun _ _ => rfl)) pa_nil)))))))), ?_⟩
    exact ⟨_, rfl, b, _, _, _, rfl, rfl, hb, atI_nat (j := 0) rfl, _, rfl, iteF h⟩
end
end K24
/-! K24T: The table's state: what it means (Tab), where it stands (TabAt); its fields read; dicts by their keys in order. -/
namespace K24
open PySem PySem.Spec PyProof.Rows L2
abbrev Ends2 := Option Fr × Option Fr
/-- what a table means: dicts are their keys in order and a function -/
structure Tab where
  many : Int
  spans : List Ends2
  cols : List Int
  hv : Int → Fr
  basis : List Int
  E : Int → Int → Int
  unit : Int
  log : Nat
/-- where it stands -/
structure Lay where
  p : Addr
  dx : Addr
  sp : Addr
  he : Addr
  tb : Addr
  hi : Addr
  rows : Addr → Prop
/-- what its methods write to -/
def Lay.fp (L : Lay) : List Addr := [L.p, L.sp, L.he, L.tb, L.hi]
def flds (m : Int) (sp he tb : Addr) (u : Int) (hi : Addr) : List (Str × V) := [("many", .int m), ("spans", .ref sp), ("held", .ref he), ("table", .ref tb), ("unit", .int u), ("history", .ref hi)]
/-- the pairs kvs are the keys ks in order, each with a value that stands for g's -/
def PD {α : Type} (R : V → α → Prop) (kvs : List (Key × V)) (ks : List Int) (g : Int → α) : Prop := Paired (fun kv k => kv.1 = (.inl k : Key) ∧ R kv.2 (g k)) kvs ks
def rowK (ks : List Int) (g : Int → Int) : List (Key × V) := ks.map fun k => (.inl k, .int (g k))
def HeldR (K : PySem.W.Frag) (H : Hp) (v : V) (q : Fr) : Prop := ∃ a, v = .ref a ∧ FrA K H a q
def RowR (H : Hp) (rows : Addr → Prop) (cols : List Int) (v : V) (r : Int → Int) : Prop := ∃ a, v = .ref a ∧ rows a ∧ H a = some (.dK (rowK cols r))
structure TabAt (K : PySem.W.Frag) (C : Addr) (H : Hp) (L : Lay) (T : Tab) : Prop where
  ins : H L.p = some (.ins C L.dx (flds T.many L.sp L.he L.tb T.unit L.hi))
  spans : ∃ ss : List Addr, H L.sp = some (.lst (ss.map V.ref)) ∧ Paired (EndsA K H) ss T.spans
  held : ∃ kvs, H L.he = some (.dK kvs) ∧ PD (HeldR K H) kvs T.cols T.hv
  table : ∃ kvs, H L.tb = some (.dK kvs) ∧ PD (RowR H L.rows T.cols) kvs T.basis T.E
  hist : ∃ xs, H L.hi = some (.lst xs) ∧ xs.length = T.log
  n1 : L.sp ≠ L.hi
  n2 : L.he ≠ L.tb
  n3 : ¬ L.rows L.he
  n4 : ¬ L.rows L.tb
/-- the meaning is in order -/
structure Tab.Ok (T : Tab) : Prop where
  nc : T.cols.Nodup
  nb : T.basis.Nodup
  dj : ∀ k ∈ T.basis, k ∉ T.cols
  pos : 0 < T.unit
  mem : ∀ k, k ∈ T.cols ∨ k ∈ T.basis ↔ 0 ≤ k ∧ k < T.spans.length
  few : T.spans.length ≤ 20
  eb : ∀ p ∈ T.basis, ∀ c ∈ T.cols, (T.E p c).natAbs < 2 ^ 700
  ub : T.unit.natAbs < 2 ^ 700
/-! K24T: ### lists -/
theorem nodup_sub {l l' : List Int} (n : l.Nodup) (h : ∀ k ∈ l, k ∈ l') : l.length ≤ l'.length := by
  induction l generalizing l' with
  | nil => exact Nat.zero_le _
  | cons a r ih =>
    obtain ⟨h1, h2⟩ := List.nodup_cons.mp n
    have ha := h a List.mem_cons_self
    have := ih (l' := l'.erase a) h2 fun k hk => by
      have hne : k ≠ a := fun z => h1 (z ▸ hk)
      exact (List.mem_erase_of_ne hne).mpr (h k (List.mem_cons_of_mem _ hk))
    rw [List.length_erase_of_mem ha] at this
    have : 0 < l'.length := List.length_pos_of_mem ha
    show r.length + 1 ≤ l'.length
    omega
theorem ints_sub {l : List Int} {n : Nat} (nd : l.Nodup) (h : ∀ k ∈ l, 0 ≤ k ∧ k < n) : l.length ≤ n := by
  have := nodup_sub (l' := (List.range n).map fun i : Nat => (i : Int)) nd fun k hk => by
    obtain ⟨h1, h2⟩ := h k hk
    exact List.mem_map.mpr ⟨k.toNat, List.mem_range.mpr (by omega), by omega⟩
  simpa using this
theorem Tab.Ok.cl {T : Tab} (o : T.Ok) : T.cols.length ≤ 20 := Nat.le_trans (ints_sub o.nc fun k hk => (o.mem k).mp (.inl hk)) o.few
theorem Tab.Ok.bl {T : Tab} (o : T.Ok) : T.basis.length ≤ 20 := Nat.le_trans (ints_sub o.nb fun k hk => (o.mem k).mp (.inr hk)) o.few
/-- the ints of a list in order -/
def srt (l : List Int) : List Int := l.mergeSort fun a b => decide (a ≤ b)
theorem srt_perm (l : List Int) : (srt l).Perm l := List.mergeSort_perm l _
theorem srt_sorted (l : List Int) : (srt l).Pairwise (· ≤ ·) := by
  have h := List.pairwise_mergeSort (le := fun a b : Int => decide (a ≤ b)) (by intro a b c h1 h2; simp only [decide_eq_true_eq] at *; omega) (by intro a b; simp only [Bool.or_eq_true, decide_eq_true_eq]; omega) l
  exact h.imp (by intro a b h; simpa using h)
theorem srt_uniq {l l' : List Int} (p : l'.Perm l) (s : l'.Pairwise (· ≤ ·)) : l' = srt l :=
  List.Perm.eq_of_pairwise (le := (· ≤ ·)) (fun a b _ _ h1 h2 => Int.le_antisymm h1 h2) s (srt_sorted l) (p.trans (srt_perm l).symm)
theorem srt_congr {l l' : List Int} (p : l.Perm l') : srt l = srt l' := srt_uniq ((srt_perm l).trans p) (srt_sorted l)
theorem srt_mem {l : List Int} {k : Int} : k ∈ srt l ↔ k ∈ l := (srt_perm l).mem_iff
theorem srt_length (l : List Int) : (srt l).length = l.length := (srt_perm l).length_eq
theorem srt_nodup {l : List Int} (h : l.Nodup) : (srt l).Nodup := (srt_perm l).symm.nodup h
/-! K24T: ### dicts by their keys -/
section
variable {α : Type} {R : V → α → Prop}
theorem PD.imp {S : V → α → Prop} {kvs : List (Key × V)} {ks : List Int} {g : Int → α} (h : PD R kvs ks g) (f : ∀ v x, R v x → S v x) : PD S kvs ks g := by
  unfold PD at *
  induction h with
  | nil => exact .nil
  | cons a t ih => exact .cons ⟨a.1, f _ _ a.2⟩ ih
theorem PD.congr {kvs : List (Key × V)} {ks : List Int} {g g' : Int → α} (h : PD R kvs ks g) (e : ∀ k ∈ ks, g k = g' k) : PD R kvs ks g' := by
  unfold PD at *
  induction h with
  | nil => exact .nil
  | cons a t ih => exact .cons ⟨a.1, by rw [← e _ List.mem_cons_self]; exact a.2⟩ (ih fun k hk => e k (List.mem_cons_of_mem _ hk))
theorem PD.length {kvs : List (Key × V)} {ks : List Int} {g : Int → α} (h : PD R kvs ks g) : kvs.length = ks.length := Paired.length h
theorem PD.keys {kvs : List (Key × V)} {ks : List Int} {g : Int → α} (h : PD R kvs ks g) : (kvs.map fun kv => kV kv.1) = ks.map V.int := by
  unfold PD at h
  induction h with
  | nil => rfl
  | cons a t ih => rw [List.map_cons, List.map_cons, ih, a.1]; rfl
theorem PD.get {kvs : List (Key × V)} {ks : List Int} {g : Int → α} (h : PD R kvs ks g) {k : Int} (hk : k ∈ ks) : ∃ v, valV kvs (.inl k : Key) = some v ∧ R v (g k) := by
  unfold PD at h
  induction h with
  | nil => cases hk
  | @cons kv j l1 l2 a t ih =>
    by_cases e : j = k
    · subst e
      exact ⟨kv.2, valV_pos a.1, a.2⟩
    · obtain ⟨v, h1, h2⟩ := ih ((List.mem_cons.mp hk).resolve_left fun z => e z.symm)
      exact ⟨v, by rw [valV_neg (fun z => e (by rw [a.1] at z; exact Sum.inl.inj z))]; exact h1, h2⟩
theorem PD.none {kvs : List (Key × V)} {ks : List Int} {g : Int → α} (h : PD R kvs ks g) {k : Int} (hk : k ∉ ks) : valV kvs (.inl k : Key) = none := by
  unfold PD at h
  induction h with
  | nil => rfl
  | @cons kv j l1 l2 a t ih =>
    rw [valV_neg (fun z => hk (by rw [a.1] at z; rw [Sum.inl.inj z]; exact List.mem_cons_self))]
    exact ih fun z => hk (List.mem_cons_of_mem _ z)
theorem PD.isSome {kvs : List (Key × V)} {ks : List Int} {g : Int → α} (h : PD R kvs ks g) (k : Int) : (valV kvs (.inl k : Key)).isSome = decide (k ∈ ks) := by
  by_cases hk : k ∈ ks
  · obtain ⟨v, e, _⟩ := h.get hk
    rw [e, decide_eq_true hk]
    rfl
  · rw [h.none hk, decide_eq_false hk]
    rfl
theorem PD.drop {kvs : List (Key × V)} {ks : List Int} {g : Int → α} (h : PD R kvs ks g) (k : Int) : PD R (dropK kvs (.inl k : Key)) (ks.filter fun j => decide (j ≠ k)) g := by
  unfold PD at *
  induction h with
  | nil => exact .nil
  | @cons kv j l1 l2 a t ih =>
    by_cases e : j = k
    · subst e
      rw [show dropK (kv :: l1) (.inl j : Key) = dropK l1 (.inl j) from by simp [dropK, a.1], show ((j :: l2).filter fun i => decide (i ≠ j)) = l2.filter fun i => decide (i ≠ j) from by simp]
      exact ih
    · have e2 : ¬ kv.1 = (.inl k : Key) := fun z => e (by rw [a.1] at z; exact Sum.inl.inj z)
      rw [show dropK (kv :: l1) (.inl k : Key) = kv :: dropK l1 (.inl k) from by simp [dropK, e2], show ((j :: l2).filter fun i => decide (i ≠ k)) = j :: l2.filter fun i => decide (i ≠ k) from by simp [e]]
      exact .cons a ih
theorem PD.new {kvs : List (Key × V)} {ks : List Int} {g : Int → α} (h : PD R kvs ks g) {k : Int} (hk : k ∉ ks) {v : V} {x : α} (r : R v x) : PD R (putK kvs (.inl k : Key) v) (ks ++ [k]) (fun j => if j = k then x else g j) := by
  rw [putK_new v (h.none hk)]
  have h2 := h.congr (g' := fun j => if j = k then x else g j) fun j hj => by
    have : j ≠ k := fun z => hk (z ▸ hj)
    simp [this]
  exact Paired.snoc h2 ⟨rfl, by simpa using r⟩
theorem PD.put {kvs : List (Key × V)} {ks : List Int} {g : Int → α} (h : PD R kvs ks g) {k : Int} (hk : k ∈ ks) {v : V} {x : α} (r : R v x) : PD R (putK kvs (.inl k : Key) v) ks (fun j => if j = k then x else g j) := by
  have hany : (kvs.any fun kv => decide (kv.1 = (.inl k : Key))) = true := by rw [valV_any, h.isSome, decide_eq_true hk]
  unfold putK
  rw [if_pos hany]
  clear hany hk
  unfold PD at *
  induction h with
  | nil => exact .nil
  | @cons kv j l1 l2 a t ih =>
    refine .cons ?_ ih
    by_cases e : j = k
    · subst e
      have e : (fun kv : Key × V => if kv.1 = (.inl j : Key) then (kv.1, v) else kv) kv = (kv.1, v) := if_pos a.1
      rw [e]
      exact ⟨a.1, by simpa using r⟩
    · have e2 : ¬ kv.1 = (.inl k : Key) := fun z => e (by rw [a.1] at z; exact Sum.inl.inj z)
      have e3 : (fun kv : Key × V => if kv.1 = (.inl k : Key) then (kv.1, v) else kv) kv = kv := if_neg e2
      rw [e3]
      exact ⟨a.1, by simpa [e] using a.2⟩
theorem PD.nth {kvs : List (Key × V)} {ks : List Int} {g : Int → α} (h : PD R kvs ks g) {i : Nat} {k : Int} (hk : ks[i]? = some k) : ∃ v, kvs[i]? = some (.inl k, v) ∧ R v (g k) := by
  unfold PD at h
  induction h generalizing i with
  | nil => simp at hk
  | @cons kv j l1 l2 a t ih =>
    cases i with
    | zero =>
      obtain rfl : j = k := by simpa using hk
      exact ⟨kv.2, by simp [← a.1], a.2⟩
    | succ i => exact ih (i := i) (by simpa using hk)
end
theorem PD.row (ks : List Int) (g : Int → Int) : PD (fun v x => v = .int x) (rowK ks g) ks g := by
  unfold PD rowK
  induction ks with
  | nil => exact .nil
  | cons k r ih => exact .cons ⟨rfl, rfl⟩ ih
theorem PD.to_row {kvs : List (Key × V)} {ks : List Int} {g : Int → Int} (h : PD (fun v x => v = .int x) kvs ks g) : kvs = rowK ks g := by
  unfold PD at h
  unfold rowK
  induction h with
  | nil => rfl
  | @cons kv j l1 l2 a t ih =>
    rw [ih, List.map_cons, ← a.1, ← a.2]
theorem rowK_get {ks : List Int} {g : Int → Int} {k : Int} (hk : k ∈ ks) : valV (rowK ks g) (.inl k : Key) = some (.int (g k)) := by
  obtain ⟨v, h1, h2⟩ := (PD.row ks g).get hk
  rw [h1, h2]
theorem rowK_congr {ks : List Int} {g g' : Int → Int} (h : ∀ k ∈ ks, g k = g' k) : rowK ks g = rowK ks g' := List.map_congr_left fun k hk => by rw [h k hk]
/-! K24T: ### what stays -/
/-- all stays but what stands at fp -/
def Keep (fp : List Addr) (H H' : Hp) : Prop := ∀ b o, H b = some o → b ∉ fp → H' b = some o
theorem Keep.refl (fp : List Addr) (H : Hp) : Keep fp H H := fun _ _ h _ => h
theorem same_keep {H H' : Hp} (s : Same H H') (fp : List Addr) : Keep fp H H' := fun b o h _ => s b o h
/-- at a something that can be written -/
def Wr (H : Hp) (a : Addr) : Prop := (∃ C dx fs, H a = some (.ins C dx fs)) ∨ (∃ xs, H a = some (.lst xs)) ∨ ∃ kvs, H a = some (.dK kvs)
theorem keep_tup {K : PySem.W.Frag} {H H' : Hp} {fp : List Addr} {a : Addr} {xs : List V} (k : Keep fp H H') (w : ∀ b ∈ fp, Wr H b) (h : SqT K H a xs) : SqT K H' a xs := by
  have no : ∀ u, H a = some u → (∀ C dx fs, u ≠ .ins C dx fs) → (∀ ys, u ≠ .lst ys) → (∀ ys, u ≠ .dK ys) → a ∉ fp := fun u e n1 n2 n3 hm => by
    rcases w a hm with ⟨C, dx, fs, z⟩ | ⟨ys, z⟩ | ⟨ys, z⟩
    · rw [e] at z
      exact n1 _ _ _ (Option.some.inj z)
    · rw [e] at z
      exact n2 _ (Option.some.inj z)
    · rw [e] at z
      exact n3 _ (Option.some.inj z)
  rcases h with (h | ⟨o, h⟩) | h
  · exact .inl (.inl (k _ _ h (no _ h (fun _ _ _ z => nomatch z) (fun _ z => nomatch z) fun _ z => nomatch z)))
  · exact .inl (.inr ⟨o, k _ _ h (no _ h (fun _ _ _ z => nomatch z) (fun _ z => nomatch z) fun _ z => nomatch z)⟩)
  · exact .inr h
section
variable {K : PySem.W.Frag} {C : Addr} {H H' : Hp} {L : Lay} {T : Tab} {fp : List Addr}
theorem keep_ends (k : Keep fp H H') (w : ∀ b ∈ fp, Wr H b) {a : Addr} {e : Ends2} (h : EndsA K H a e) : EndsA K H' a e := by
  obtain ⟨x, y, h1, h2, h3⟩ := h
  have go : ∀ {x : V} {o : Option Fr}, EndV K H x o → EndV K H' x o := fun {x o} h => by
    cases o with
    | none => exact h
    | some q =>
      obtain ⟨b, e, h⟩ := h
      exact ⟨b, e, keep_tup k w h⟩
  exact ⟨x, y, keep_tup k w h1, go h2, go h3⟩
theorem keep_spans (k : Keep fp H H') (w : ∀ b ∈ fp, Wr H b) {ss : List Addr} {es : List Ends2} (h : Paired (EndsA K H) ss es) : Paired (EndsA K H') ss es := by
  induction h with
  | nil => exact .nil
  | cons a t ih => exact .cons (keep_ends k w a) ih
theorem keep_held (k : Keep fp H H') (w : ∀ b ∈ fp, Wr H b) {kvs : List (Key × V)} {ks : List Int} {g : Int → Fr} (h : PD (HeldR K H) kvs ks g) : PD (HeldR K H') kvs ks g :=
  h.imp fun v x ⟨a, e, r⟩ => ⟨a, e, keep_tup k w r⟩
theorem keep_rows {rows : Addr → Prop} {cols : List Int} (k : Keep fp H H') (n : ∀ b ∈ fp, ¬ rows b) {kvs : List (Key × V)} {ks : List Int} {g : Int → Int → Int} (h : PD (RowR H rows cols) kvs ks g) : PD (RowR H' rows cols) kvs ks g :=
  h.imp fun v x ⟨a, e, hr, r⟩ => ⟨a, e, hr, k _ _ r fun z => n a z hr⟩
theorem TabAt.wr (h : TabAt K C H L T) : ∀ b ∈ L.fp, Wr H b := by
  obtain ⟨ss, h2, _⟩ := h.spans
  obtain ⟨k1, h3, _⟩ := h.held
  obtain ⟨k2, h4, _⟩ := h.table
  obtain ⟨xs, h5, _⟩ := h.hist
  intro b hb
  simp only [Lay.fp, List.mem_cons, List.not_mem_nil, or_false] at hb
  rcases hb with rfl | rfl | rfl | rfl | rfl
  · exact .inl ⟨_, _, _, h.ins⟩
  · exact .inr (.inl ⟨_, h2⟩)
  · exact .inr (.inr ⟨_, h3⟩)
  · exact .inr (.inr ⟨_, h4⟩)
  · exact .inr (.inl ⟨_, h5⟩)
/-- another table stays where it is not written -/
theorem TabAt.keep (h : TabAt K C H L T) (k : Keep fp H H') (w : ∀ b ∈ fp, Wr H b) (n : ∀ b ∈ fp, b ∉ L.fp ∧ ¬ L.rows b) : TabAt K C H' L T := by
  have no : ∀ b ∈ L.fp, b ∉ fp := fun b hb hf => (n b hf).1 hb
  have m : L.p ∈ L.fp ∧ L.sp ∈ L.fp ∧ L.he ∈ L.fp ∧ L.tb ∈ L.fp ∧ L.hi ∈ L.fp := by simp [Lay.fp]
  obtain ⟨m1, m2, m3, m4, m5⟩ := m
  obtain ⟨ss, h2, h2p⟩ := h.spans
  obtain ⟨k1, h3, h3p⟩ := h.held
  obtain ⟨k2, h4, h4p⟩ := h.table
  obtain ⟨xs, h5, h5p⟩ := h.hist
  exact ⟨k _ _ h.ins (no _ m1), ⟨ss, k _ _ h2 (no _ m2), keep_spans k w h2p⟩, ⟨k1, k _ _ h3 (no _ m3), keep_held k w h3p⟩, ⟨k2, k _ _ h4 (no _ m4), keep_rows k (fun b hb => (n b hb).2) h4p⟩, ⟨xs, k _ _ h5 (no _ m5), h5p⟩, h.n1, h.n2, h.n3, h.n4⟩
theorem TabAt.same (h : TabAt K C H L T) (s : Same H H') : TabAt K C H' L T := h.keep (same_keep s []) (fun b hb => nomatch hb) fun b hb => nomatch hb
end
end K24
/-! K24U: The table's methods that only read: places, basis, columns, ends, check_pair, entry. -/
namespace K24
open PySem PySem.Spec PyProof.Rows L2
/-- what is asked of the class -/
structure TC (K : PySem.W.Frag) (C : Addr) : Prop where
  cl : Cls K C
  nM : NoAttr K C "many"
  nS : NoAttr K C "spans"
  nH : NoAttr K C "held"
  nT : NoAttr K C "table"
  nU : NoAttr K C "unit"
  nI : NoAttr K C "history"
section
variable {K : PySem.W.Frag} {C p dx sp he tb hi : Addr} {m u : Int} {H : Hp} {σ : L2.St} {i : Nat} {Q : VK}
theorem rd_many (c : TC K C) (h : H p = some (.ins C dx (flds m sp he tb u hi))) (hs : σ[i]? = some (some (.ref p))) (q : Q (.int m) H) : tFld K (tVar i) "many" σ H Q := ⟨_, hs, p, C, dx, _, _, rfl, h, c.cl, c.nM, rfl, q⟩
theorem rd_spans (c : TC K C) (h : H p = some (.ins C dx (flds m sp he tb u hi))) (hs : σ[i]? = some (some (.ref p))) (q : Q (.ref sp) H) : tFld K (tVar i) "spans" σ H Q := ⟨_, hs, p, C, dx, _, _, rfl, h, c.cl, c.nS, rfl, q⟩
theorem rd_held (c : TC K C) (h : H p = some (.ins C dx (flds m sp he tb u hi))) (hs : σ[i]? = some (some (.ref p))) (q : Q (.ref he) H) : tFld K (tVar i) "held" σ H Q := ⟨_, hs, p, C, dx, _, _, rfl, h, c.cl, c.nH, rfl, q⟩
theorem rd_table (c : TC K C) (h : H p = some (.ins C dx (flds m sp he tb u hi))) (hs : σ[i]? = some (some (.ref p))) (q : Q (.ref tb) H) : tFld K (tVar i) "table" σ H Q := ⟨_, hs, p, C, dx, _, _, rfl, h, c.cl, c.nT, rfl, q⟩
theorem rd_unit (c : TC K C) (h : H p = some (.ins C dx (flds m sp he tb u hi))) (hs : σ[i]? = some (some (.ref p))) (q : Q (.int u) H) : tFld K (tVar i) "unit" σ H Q := ⟨_, hs, p, C, dx, _, _, rfl, h, c.cl, c.nU, rfl, q⟩
theorem rd_hist (c : TC K C) (h : H p = some (.ins C dx (flds m sp he tb u hi))) (hs : σ[i]? = some (some (.ref p))) (q : Q (.ref hi) H) : tFld K (tVar i) "history" σ H Q := ⟨_, hs, p, C, dx, _, _, rfl, h, c.cl, c.nI, rfl, q⟩
end
section
variable {P : Program} {w : World} {K : PySem.W.Frag} {mg : Str → Option Value} {base : Heap} {f : Addr} {fd : FuncData} {cI cR C : Addr}
def spPlaces (K : PySem.W.Frag) (C : Addr) : Sp := fun vs H Q _ => ∃ L T, vs = [.ref L.p] ∧ TabAt K C H L T ∧ Q (.int T.spans.length) H
theorem ok_places (F : Fun K "places" "Tableau.places" s_Tab_places f fd) (c : TC K C) (Z : Bz mg) : FnOk P w K mg base (L2.CX P w) 1 f fd ["self"] (spPlaces K C) := by
  refine F.okX sc_Tab_places (fun vs H Q E h => ?_) (fun cdv A outer s H vs Q E hr h => ?_)
  · obtain ⟨L, T, rfl, _⟩ := h
    rfl
  · obtain ⟨L, T, rfl, t, h⟩ := h
    obtain ⟨ss, h2, h2p⟩ := t.spans
    refine ⟨_, (pss_one (ps_ret (pe_callB call_len_seq rfl Z.len_ PySem.boot_len (pa_cons (pe_fldK (K := K) (pv 0) (by rfl) (by rfl)) pa_nil)))), ?_⟩
    refine rd_spans c t.ins rfl ⟨_, _, rfl, .inl (SqL.of h2), ?_⟩
    rw [List.length_map, Paired.length h2p]
    exact h
/-- a new tuple of the keys in order -/
def spKeys (K : PySem.W.Frag) (C : Addr) (ks : Tab → List Int) : Sp := fun vs H Q _ => ∃ L T, vs = [.ref L.p] ∧ TabAt K C H L T ∧ ∀ a H', Same H H' → H a = none → H' a = some (.tup ((srt (ks T)).map V.int)) → Q (.ref a) H'
theorem ok_basis (F : Fun K "basis" "Tableau.basis" s_Tab_basis f fd) (c : TC K C) (Z : Bz mg) : FnOk P w K mg base (L2.CX P w) 1 f fd ["self"] (spKeys K C Tab.basis) := by
  refine F.okX sc_Tab_basis (fun vs H Q E h => ?_) (fun cdv A outer s H vs Q E hr h => ?_)
  · obtain ⟨L, T, rfl, _⟩ := h
    rfl
  · obtain ⟨L, T, rfl, t, h⟩ := h
    obtain ⟨kvs, h2, h2p⟩ := t.table
    refine ⟨_, (pss_one (ps_ret (pe_tupleOf rfl Z.tuple_ (pe_callB cr_sortedI rfl Z.sorted_ (by decide +kernel) (pa_cons (pe_callTy (call_list_dK rfl) rfl Z.list_ (by decide +kernel) (pa_cons (pe_fldK (K := K) (pv 0) (by rfl) (by rfl)) pa_nil)) pa_nil))))), ?_⟩
    refine rd_table c t.ins rfl ⟨_, _, rfl, h2, fun q hq => ?_⟩
    rw [h2p.keys]
    refine ⟨q, T.basis, rfl, SqL.of upd_same, fun ns a pm so ha => .inl ⟨a, _, rfl, SqL.of upd_same, fun b hb => ?_⟩⟩
    have e := srt_uniq pm so
    have na : H a = none := (same_new hq).free ha
    exact h b _ (same_put (same_put (same_new hq) na) ((same_put (same_new hq) na).free hb)) ((same_put (same_new hq) na).free hb) (by rw [upd_same, e])
theorem ok_columns (F : Fun K "columns" "Tableau.columns" s_Tab_columns f fd) (c : TC K C) (Z : Bz mg) : FnOk P w K mg base (L2.CX P w) 1 f fd ["self"] (spKeys K C Tab.cols) := by
  refine F.okX sc_Tab_columns (fun vs H Q E h => ?_) (fun cdv A outer s H vs Q E hr h => ?_)
  · obtain ⟨L, T, rfl, _⟩ := h
    rfl
  · obtain ⟨L, T, rfl, t, h⟩ := h
    obtain ⟨kvs, h2, h2p⟩ := t.held
    refine ⟨_, (pss_one (ps_ret (pe_tupleOf rfl Z.tuple_ (pe_callB cr_sortedI rfl Z.sorted_ (by decide +kernel) (pa_cons (pe_callTy (call_list_dK rfl) rfl Z.list_ (by decide +kernel) (pa_cons (pe_fldK (K := K) (pv 0) (by rfl) (by rfl)) pa_nil)) pa_nil))))), ?_⟩
    refine rd_held c t.ins rfl ⟨_, _, rfl, h2, fun q hq => ?_⟩
    rw [h2p.keys]
    refine ⟨q, T.cols, rfl, SqL.of upd_same, fun ns a pm so ha => .inl ⟨a, _, rfl, SqL.of upd_same, fun b hb => ?_⟩⟩
    have e := srt_uniq pm so
    have na : H a = none := (same_new hq).free ha
    exact h b _ (same_put (same_put (same_new hq) na) ((same_put (same_new hq) na).free hb)) ((same_put (same_new hq) na).free hb) (by rw [upd_same, e])
/-! K24U: ### ends -/
structure DE (P : Program) (w : World) (K : PySem.W.Frag) (mg : Str → Option Value) (base : Heap) (cI : Addr) : Prop where
  need_number : Dn P w K mg base "need_number" 3 ["value", "most", "word"] (spNeed K cI)
/-- only its error is asked for -/
def spEnds (K : PySem.W.Frag) (C cI : Addr) : Sp := fun vs H Q E => ∃ L T v t, vs = [.ref L.p, v] ∧ TabAt K C H L T ∧ Odd K H v t ∧ okN v ((T.spans.length : Int) - 1) = false ∧ Err cI "place" H E
theorem ok_ends (F : Fun K "ends" "Tableau.ends" s_Tab_ends f fd) (c : TC K C) (Z : Bz mg) (D : DE P w K mg base cI) : FnOk P w K mg base (L2.CX P w) 4 f fd ["self", "place"] (spEnds K C cI) := by
  refine F.okX sc_Tab_ends (fun vs H Q E h => ?_) (fun cdv A outer s H vs Q E hr h => ?_)
  · obtain ⟨L, T, v, t, rfl, _⟩ := h
    rfl
  · obtain ⟨L, T, v, ty, rfl, t, o, hb, h⟩ := h
    obtain ⟨ss, h2, h2p⟩ := t.spans
    refine ⟨_, (pss_cons (ps_expr (pe_dn D.need_number (hr.mono (by decide)) rfl (passes_call (takes_of rfl rfl rfl rfl) (fun _ _ _ _ z => z)) (pa_cons (pv 1) (pa_cons (pe_op op_sub (pe_callB call_len_seq rfl Z.len_ PySem.boot_len (pa_cons (pe_fldK (K := K) (pv 0) (by rfl) (by rfl)) pa_nil)) pe_int) (pa_cons pe_str pa_nil)))))
      (pss_one (ps_ret (pe_ix (r := rIxT K) ix_tup (pe_fldK (K := K) (pv 0) (by rfl) (by rfl)) (pv 1) (fun _ _ => rfl))))), ?_⟩
    refine ⟨v, rfl, rd_spans c t.ins rfl ⟨_, _, rfl, .inl (SqL.of h2), _, _, rfl, rfl, ?_⟩⟩
    rw [List.length_map, Paired.length h2p]
    exact ⟨v, ty, _, _, rfl, o, fun z => (Bool.noConfusion (hb.symm.trans z)), fun _ => h⟩
/-! K24U: ### check_pair, entry -/
def inB (ks : List Int) (v : V) : Bool := match v with
  | .int i => decide (0 ≤ i) && decide (i ∈ ks)
  | _ => false
theorem inB_isN {ks : List Int} {v : V} (h : inB ks v = true) : ∃ i, v = .int i ∧ 0 ≤ i ∧ i ∈ ks := by
  cases v with
  | int i =>
    have h : (decide (0 ≤ i) && decide (i ∈ ks)) = true := h
    simp only [Bool.and_eq_true, decide_eq_true_eq] at h
    exact ⟨i, rfl, h⟩
  | _ => exact Bool.noConfusion (show false = true from h)
structure DC (P : Program) (w : World) (K : PySem.W.Frag) (mg : Str → Option Value) (base : Heap) (cI cR : Addr) : Prop where
  is_number : Dn P w K mg base "is_number" 2 ["value"] (spIsNum K)
  InvalidNumber : De P w K mg base "InvalidNumber" cI
  Refused : De P w K mg base "Refused" cR
def spCheck (K : PySem.W.Frag) (C cR : Addr) : Sp := fun vs H Q E => ∃ L T v t c t', vs = [.ref L.p, v, c] ∧ TabAt K C H L T ∧ Odd K H v t ∧ Odd K H c t' ∧
  (inB T.basis v = false → Err cR "basis" H E) ∧ (inB T.basis v = true → inB T.cols c = false → Err cR "column" H E) ∧ (inB T.basis v = true → inB T.cols c = true → Q .non H)
/-- if not is_number(v) or v not in d -/
theorem key_test {A B : TS} {D : Ends} {td : TE} {i : Nat} {σ : L2.St} {H : Hp} {v : V} {t : String} {d : Addr} {kvs : List (Key × V)} {α : Type} {R : V → α → Prop} {ks : List Int} {g : Int → α} (hs : σ[i]? = some (some v)) (o : Odd K H v t) (hd : H d = some (.dK kvs)) (pd : PD R kvs ks g)
    (htd : ∀ R : VK, R (.ref d) H → td σ H R) (ha : inB ks v = false → A D σ H) (hb : inB ks v = true → B D σ H) : tIfS (tOr (tNot (tB (tCall (spIsNum K) [] E0 (tCons (tVar i) tNil)))) (tB (tDNotIn (tVar i) td))) A B D σ H := by
  refine ⟨v, hs, v, t, rfl, o, _, rfl, ?_⟩
  cases o with
  | int n =>
    by_cases h0 : 0 ≤ n
    · rw [show isN (.int n) = true from decide_eq_true h0]
      refine iteF ⟨_, hs, htd _ ⟨d, _, rfl, DGet.k (k := (.inl n : Key)) hd, _, rfl, ?_⟩⟩
      have e : inB ks (.int n) = decide (n ∈ ks) := by
        show (decide (0 ≤ n) && decide (n ∈ ks)) = _
        rw [decide_eq_true h0]
        rfl
      rw [e] at ha hb
      rw [pd.isSome n]
      by_cases h1 : n ∈ ks
      · rw [decide_eq_true h1] at hb ⊢
        exact iteF (hb rfl)
      · rw [decide_eq_false h1] at ha ⊢
        exact iteT (ha rfl)
    · rw [show isN (.int n) = false from decide_eq_false h0]
      refine iteT (ha ?_)
      show (decide (0 ≤ n) && decide (n ∈ ks)) = false
      rw [decide_eq_false h0]
      rfl
  | _ => exact iteT (ha rfl)
theorem ok_check_pair (F : Fun K "check_pair" "Tableau.check_pair" s_Tab_check_pair f fd) (c : TC K C) (D : DC P w K mg base cI cR) : FnOk P w K mg base (L2.CX P w) 3 f fd ["self", "place", "column"] (spCheck K C cR) := by
  refine F.okX sc_Tab_check_pair (fun vs H Q E h => ?_) (fun cdv A outer s H vs Q E hr h => ?_)
  · obtain ⟨L, T, v, t, x, t', rfl, _⟩ := h
    rfl
  · obtain ⟨L, T, v, tv, x, tx, rfl, t, ov, ox, h1, h2, h3⟩ := h
    have hu := hu_of hr
    refine ⟨_, (pss_cons (ps_if (PW.pt (pw_or (pt_not (pt_val (pe_dn D.is_number (hr.mono (by decide)) rfl passL (pa_cons (pv 1) pa_nil)))) (pw_or1 (pt_cmp (pc_dnotin (by exact hu) (pv 1) (pe_fldK (K := K) (pv 0) (by rfl) (by rfl))))))) (pss_one (ps_err D.Refused rfl (takes_of rfl rfl rfl rfl) (hr.mono (by decide)) rfl pe_str)) pss_nil)
      (pss_one (ps_if (PW.pt (pw_or (pt_not (pt_val (pe_dn D.is_number (hr.mono (by decide)) rfl passL (pa_cons (pv 2) pa_nil)))) (pw_or1 (pt_cmp (pc_dnotin (by exact hu) (pv 2) (pe_fldK (K := K) (pv 0) (by rfl) (by rfl))))))) (pss_one (ps_err D.Refused rfl (takes_of rfl rfl rfl rfl) (hr.mono (by decide)) rfl pe_str)) pss_nil))), ?_⟩
    obtain ⟨k1, g1, p1⟩ := t.table
    obtain ⟨k2, g2, p2⟩ := t.held
    refine key_test rfl ov g1 p1 (fun R q => rd_table c t.ins rfl q) (fun e => err_leaf fun d H' => h1 e d H') fun e => ?_
    dsimp only [tNext]
    exact key_test rfl ox g2 p2 (fun R q => rd_held c t.ins rfl q) (fun e2 => err_leaf fun d H' => h2 e e2 d H') fun e2 => h3 e e2
/-! K24U: ### entry -/
structure DEn (P : Program) (w : World) (K : PySem.W.Frag) (mg : Str → Option Value) (base : Heap) (C cR : Addr) : Prop where
  check_pair : Dm P w K mg base C "check_pair" 3 ["self", "place", "column"] (spCheck K C cR)
  fraction_of : Dn P w K mg base "fraction_of" 2 ["top", "bottom"] spFrac
theorem small8000 {u : Int} (h : u.natAbs < 2 ^ 700) : u.natAbs < 2 ^ 8000 := Nat.lt_of_lt_of_le h (Nat.pow_le_pow_right (by decide) (by decide))
def spEntry (K : PySem.W.Frag) (C cR : Addr) : Sp := fun vs H Q E => ∃ L T v t c t', vs = [.ref L.p, v, c] ∧ TabAt K C H L T ∧ T.Ok ∧ Odd K H v t ∧ Odd K H c t' ∧
  (inB T.basis v = false → Err cR "basis" H E) ∧ (inB T.basis v = true → inB T.cols c = false → Err cR "column" H E) ∧
  (∀ i j, v = .int i → c = .int j → i ∈ T.basis → j ∈ T.cols → ∀ a, H a = none → Q (.ref a) (upd H a (.tup [.int (M.norm (T.E i j) T.unit).1, .int (M.norm (T.E i j) T.unit).2])))
theorem ok_entry (F : Fun K "entry" "Tableau.entry" s_Tab_entry f fd) (c : TC K C) (D : DEn P w K mg base C cR) : FnOk P w K mg base (L2.CX P w) 4 f fd ["self", "place", "column"] (spEntry K C cR) := by
  refine F.okX sc_Tab_entry (fun vs H Q E h => ?_) (fun cdv A outer s H vs Q E hr h => ?_)
  · obtain ⟨L, T, v, t, x, t', rfl, _⟩ := h
    rfl
  · obtain ⟨L, T, v, tv, x, tx, rfl, t, ok, ov, ox, h1, h2, h3⟩ := h
    have hu := hu_of hr
    refine ⟨_, (pss_cons (ps_expr (pe_dm (pv 0) D.check_pair (hr.mono (by decide)) (passes_call (takes_of rfl rfl rfl rfl) (fun _ _ _ _ z => z)) (pa_cons (pv 1) (pa_cons (pv 2) pa_nil))))
      (pss_one (ps_ret (pe_dn D.fraction_of (hr.mono (by decide)) rfl passL (pa_cons (pe_dget hu (pe_dget hu (pe_fldK (K := K) (pv 0) (by rfl) (by rfl)) (pv 1) (fun _ _ => rfl)) (pv 2) (fun _ _ => rfl)) (pa_cons (pe_fldK (K := K) (pv 0) (by rfl) (by rfl)) pa_nil)))))), ?_⟩
    refine ⟨_, rfl, L.p, _, _, rfl, t.ins, rfl, v, rfl, x, rfl, L, T, v, tv, x, tx, rfl, t, ov, ox, h1, h2, fun e1 e2 => ?_⟩
    obtain ⟨i, rfl, _, hi⟩ := inB_isN e1
    obtain ⟨j, rfl, _, hj⟩ := inB_isN e2
    obtain ⟨k1, g1, p1⟩ := t.table
    obtain ⟨y, y1, a, rfl, ra, y3⟩ := p1.get hi
    exact ⟨_, rfl, _, C, _, _, _, rfl, t.ins, c.cl, c.nT, rfl, _, rfl, L.tb, .ref a, rfl, y1 ▸ DGet.k (k := (.inl i : Key)) g1, _, rfl, a, .int (T.E i j), rfl, rowK_get hj ▸ DGet.k (k := (.inl j : Key)) y3, _, rfl, _, C, _, _, _, rfl, t.ins, c.cl, c.nU, rfl, _, _, rfl, by have := ok.pos; omega, small8000 ok.ub, h3 i j rfl rfl hi hj⟩
end
end K24
/-! K24V: value, point, row_at. -/
namespace K24
open PySem PySem.Spec PyProof.Rows L2
/-- the constant ZERO -/
structure ZE (K : PySem.W.Frag) (mg : Str → Option Value) (z : Addr) : Prop where
  mg_ : mg "ZERO" = some (.ref z)
  fr : ∀ H, FrA K H z (0, 1)
theorem same_upd2 {H H' : Hp} {d : Addr} {o u : HO} (h : H d = some u) (s : Same (upd H d o) H') : Same H (upd H' d u) := fun b v e => by
  by_cases hb : b = d
  · subst hb
    rw [upd_same, ← e, h]
  · rw [upd_ne hb]
    exact s b v (by rw [upd_ne hb]; exact e)
/-- a tuple stays where another kind of object is written -/
theorem tup_upd {K : PySem.W.Frag} {H : Hp} {d b : Addr} {u o : HO} {xs : List V} (h : SqT K H b xs) (hd : H d = some o) (n1 : ∀ ys, o ≠ .tup ys) (n2 : ∀ ob ys, o ≠ .frz ob (.tup ys)) : SqT K (upd H d u) b xs := by
  rcases h with (h | ⟨ob, h⟩) | h
  · exact .inl (.inl (by rw [upd_ne (fun e => n1 xs (by rw [e, hd] at h; exact Option.some.inj h))]; exact h))
  · exact .inl (.inr ⟨ob, by rw [upd_ne (fun e => n2 ob xs (by rw [e, hd] at h; exact Option.some.inj h))]; exact h⟩)
  · exact .inr h
theorem row_nth {ks : List Int} {g : Int → Int} {i : Nat} {k : Key} {v : V} (h : (rowK ks g)[i]? = some (k, v)) : ∃ j, ks[i]? = some j ∧ k = .inl j ∧ v = .int (g j) := by
  unfold rowK at h
  rw [List.getElem?_map] at h
  cases e : ks[i]? with
  | none => rw [e] at h; cases h
  | some j => rw [e] at h; cases h; exact ⟨j, rfl, rfl, rfl⟩
theorem drop_nth {α : Type} {l : List α} {i : Nat} {x : α} (h : l[i]? = some x) : l.drop i = x :: l.drop (i + 1) := by
  obtain ⟨hl, e⟩ := List.getElem?_eq_some_iff.mp h
  rw [List.drop_eq_getElem_cons hl, e]
/-- for k, v in d.items(): the dict locked meanwhile -/
theorem for_items {K : PySem.W.Frag} {td : TE} {a b : Nat} {tb : TS} {D : Ends} {σ : L2.St} {H : Hp} {d : Addr} {kvs : List (Key × V)} (Pv : Obj → Nat → L2.St → Hp → Prop) (hd : H d = some (.dK kvs))
    (htd : ∀ od (R : VK), R (.ref d) (upd H d (.frz od (.dK kvs))) → td σ (upd H d (.frz od (.dK kvs))) R) (h0 : ∀ od, Pv od 0 σ (upd H d (.frz od (.dK kvs)))) (hl : ∀ od i σ' H', Pv od i σ' H' → H' d = some (.frz od (.dK kvs)))
    (hs : ∀ od i k v σ' H' T (D' : Ends), kvs[i]? = some (k, v) → Pv od i σ' H' → H' T = none → D'.nx = Pv od (i + 1) → tb D' ((σ'.set a (some (kV k))).set b (some v)) (upd H' T (.tup [kV k, v])))
    (he : ∀ od σ' H', Pv od kvs.length σ' H' → D.nx σ' (upd H' d (.dK kvs))) : tLock (tFor (iItems td) (gTup K 2 (gCons (gName a) (gCons (gName b) gNil))) tb) D σ H := by
  refine ⟨d, _, hd, True.intro, fun od => htd od _ ⟨d, od, kvs, rfl, upd_same, for_by (J := Iti d od kvs) (n := kvs.length) (Pv od) (h0 od) (fun i σ' H' lt p => ⟨hl od i σ' H' p, lt⟩) (fun σ' H' p => ⟨hl od _ σ' H' p, Nat.le_refl _⟩) ?_ fun σ' H' p => ⟨hl od _ σ' H' p, he od σ' H' p⟩⟩⟩
  rintro i σ' H' x H2 lt p ⟨T, k, v, e1, rfl, hT, rfl⟩
  exact ⟨T, _, rfl, SqT.of upd_same, rfl, _, _, rfl, _, _, rfl, rfl, hs od i k v σ' H' T _ e1 p hT rfl⟩
/-! K24V: ### value -/
def okF (q : Fr) : Bool := decide (q.1.natAbs < 2 ^ 1500) && decide (q.2.natAbs < 2 ^ 1500) && decide (q.2 ≠ 0)
theorem okF_sm {q : Fr} (h : okF q = true) : Sm q ∧ q.2 ≠ 0 := by
  simp only [okF, Bool.and_eq_true, decide_eq_true_eq] at h
  exact ⟨⟨h.1.1, h.1.2⟩, h.2⟩
def accT (hv : Int → Fr) (e : Int → Int) : List Int → Fr → Option Fr
  | [], t => some t
  | c :: r, t => if e c = 0 then accT hv e r t else if (okF t && okF (hv c) && okF (mulF (e c, 1) (hv c))) = true then accT hv e r (addF t (mulF (e c, 1) (hv c))) else none
theorem accT_cons (hv : Int → Fr) (e : Int → Int) (c : Int) (r : List Int) (t : Fr) : accT hv e (c :: r) t = if e c = 0 then accT hv e r t else if (okF t && okF (hv c) && okF (mulF (e c, 1) (hv c))) = true then accT hv e r (addF t (mulF (e c, 1) (hv c))) else none := rfl
def valT (T : Tab) (k : Int) : Option Fr :=
  if k ∈ T.cols then some (T.hv k) else match accT T.hv (T.E k) T.cols (0, 1) with
    | some t => if (okF t && okF (M.norm 1 T.unit)) = true then some (mulF t (M.norm 1 T.unit)) else none
    | none => none
section
variable {P : Program} {w : World} {K : PySem.W.Frag} {mg : Str → Option Value} {base : Heap} {f : Addr} {fd : FuncData} {cI cR C z : Addr}
structure DV (P : Program) (w : World) (K : PySem.W.Frag) (mg : Str → Option Value) (base : Heap) (cI : Addr) : Prop where
  need_number : Dn P w K mg base "need_number" 3 ["value", "most", "word"] (spNeed K cI)
  added : Dn P w K mg base "added" 3 ["one", "other"] (spF2 K addF)
  timed : Dn P w K mg base "timed" 3 ["one", "other"] (spF2 K mulF)
  whole : Dn P w K mg base "whole" 1 ["number"] spWhole
  fraction_of : Dn P w K mg base "fraction_of" 2 ["top", "bottom"] spFrac
def spValue (K : PySem.W.Frag) (C cI : Addr) : Sp := fun vs H Q E => ∃ L T v t, vs = [.ref L.p, v] ∧ TabAt K C H L T ∧ T.Ok ∧ Odd K H v t ∧ (okN v ((T.spans.length : Int) - 1) = false → Err cI "place" H E) ∧
  (okN v ((T.spans.length : Int) - 1) = true → ∃ k q, v = .int k ∧ valT T k = some q ∧ ∀ a H', Same H H' → FrA K H' a q → Q (.ref a) H')
theorem sm_ent {i : Int} (h : i.natAbs < 2 ^ 700) : Sm (i, 1) := ⟨Nat.lt_of_lt_of_le h (Nat.pow_le_pow_right (by decide) (by decide)), Nat.lt_of_lt_of_le (by decide : 1 < 2 ^ 1) (Nat.pow_le_pow_right (by decide) (by decide))⟩
theorem ok_value (F : Fun K "value" "Tableau.value" s_Tab_value f fd) (c : TC K C) (Z : Bz mg) (Z0 : ZE K mg z) (D : DV P w K mg base cI) : FnOk P w K mg base (L2.CX P w) 4 f fd ["self", "place"] (spValue K C cI) := by
  refine F.okX sc_Tab_value (fun vs H Q E h => ?_) (fun cdv A outer s H vs Q E hr h => ?_)
  · obtain ⟨L, T, v, t, rfl, _⟩ := h
    rfl
  · obtain ⟨L, T, v, ty, rfl, t, ok, o, h1, h2⟩ := h
    have hu := hu_of hr
    have nd := sc_Tab_value.nd
    obtain ⟨ss, g2, g2p⟩ := t.spans
    obtain ⟨kh, g3, p3⟩ := t.held
    obtain ⟨kt, g4, p4⟩ := t.table
    refine ⟨_, (pss_cons (ps_expr (pe_dn D.need_number (hr.mono (by decide)) rfl (passes_call (takes_of rfl rfl rfl rfl) (fun _ _ _ _ z => z)) (pa_cons (pv 1) (pa_cons (pe_op op_sub (pe_callB call_len_seq rfl Z.len_ PySem.boot_len (pa_cons (pe_fldK (K := K) (pv 0) (by rfl) (by rfl)) pa_nil)) pe_int) (pa_cons pe_str pa_nil)))))
      (pss_cons (ps_if (pt_cmp (pc_din (by exact hu) (pv 1) (pe_fldK (K := K) (pv 0) (by rfl) (by rfl)))) (pss_one (ps_ret (pe_dget (by exact hu) (pe_fldK (K := K) (pv 0) (by rfl) (by rfl)) (pv 1) (fun _ _ => rfl)))) pss_nil)
      (pss_cons (ps_set (i := 2) nd rfl (Or.inl rfl) (pe_glob (u := .ref z) (v := .ref z) (by rfl) Z0.mg_ rfl))
      (pss_cons (ps_lock (ps_for (passes_of rfl) rfl (pi_items (pe_dget (by exact hu) (pe_fldK (K := K) (pv 0) (by rfl) (by rfl)) (pv 1) (fun _ _ => rfl))) (pg_tupK (K := K) (n := 2) rfl (pgs_cons (pg_name (i := 3) nd rfl (Or.inl rfl)) (pgs_cons (pg_name (i := 4) nd rfl (Or.inl rfl)) pgs_nil)) (by rfl)) (pss_one (ps_if (pt_cmpR op_ne (pv 4) pe_int (nomark _)) (pss_one (ps_set (i := 2) nd rfl (Or.inl rfl) (pe_dn D.added (hr.mono (by decide)) rfl passL (pa_cons (pv 2) (pa_cons (pe_dn D.timed (hr.mono (by decide)) rfl passL (pa_cons (pe_dn D.whole (hr.mono (by decide)) rfl passL (pa_cons (pv 4) pa_nil)) (pa_cons (pe_dget (by exact hu) (pe_fldK (K := K) (pv 0) (by rfl) (by rfl)) (pv 3) (fun _ _ => rfl)) pa_nil))) pa_nil))))) pss_nil))))
      (pss_one (ps_ret (pe_dn D.timed (hr.mono (by decide)) rfl passL (pa_cons (pv 2) (pa_cons (pe_dn D.fraction_of (hr.mono (by decide)) rfl passL (pa_cons pe_int (pa_cons (pe_fldK (K := K) (pv 0) (by rfl) (by rfl)) pa_nil))) pa_nil))))))))), ?_⟩
    refine ⟨v, rfl, _, rfl, _, C, _, _, _, rfl, t.ins, c.cl, c.nS, rfl, _, _, rfl, .inl (SqL.of g2), _, _, rfl, rfl, ?_⟩
    rw [List.length_map, Paired.length g2p]
    refine ⟨v, ty, _, _, rfl, o, fun e => ?_, h1⟩
    obtain ⟨k, q, rfl, hq, h⟩ := h2 e
    have hk : 0 ≤ k ∧ k < T.spans.length := by
      have : decide (0 ≤ k ∧ k ≤ (T.spans.length : Int) - 1) = true := e
      simp only [decide_eq_true_eq] at this
      omega
    refine ⟨_, rfl, _, rfl, _, C, _, _, _, rfl, t.ins, c.cl, c.nH, rfl, L.he, _, rfl, DGet.k (k := (.inl k : Key)) g3, _, rfl, ?_⟩
    rw [p3.isSome k]
    unfold valT at hq
    by_cases hc : k ∈ T.cols
    · rw [if_pos hc] at hq
      cases hq
      obtain ⟨y, y1, a, rfl, ra⟩ := p3.get hc
      rw [decide_eq_true hc]
      exact iteT ⟨_, rfl, _, C, _, _, _, rfl, t.ins, c.cl, c.nH, rfl, _, rfl, L.he, .ref a, rfl, y1 ▸ DGet.k (k := (.inl k : Key)) g3, h a H (Same.refl H) ra⟩
    · rw [if_neg hc] at hq
      have hb : k ∈ T.basis := ((ok.mem k).mpr hk).resolve_left hc
      obtain ⟨y, y1, r, rfl, rr, y3⟩ := p4.get hb
      rw [decide_eq_false hc]
      refine iteF ?_
      have ne : ∀ {b : Addr} {u : HO}, H b = some u → (∀ kv, u ≠ .dK kv) → b ≠ r := fun {b u} e1 e2 e3 => by
        rw [e3, y3] at e1
        exact e2 _ (Option.some.inj e1).symm
      have ner : L.he ≠ r := fun e3 => t.n3 (e3 ▸ rr)
      obtain ⟨t0, h0, hq⟩ : ∃ t0, accT T.hv (T.E k) T.cols (0, 1) = some t0 ∧ (if (okF t0 && okF (M.norm 1 T.unit)) = true then some (mulF t0 (M.norm 1 T.unit)) else none) = some q := by
        cases e : accT T.hv (T.E k) T.cols (0, 1) with
        | none => rw [e] at hq; cases hq
        | some t0 => rw [e] at hq; exact ⟨t0, rfl, hq⟩
      have net : L.tb ≠ r := fun e3 => t.n4 (e3 ▸ rr)
      refine for_items (K := K) (d := r) (fun od i σ H' => ∃ (b : Addr) (q' : Fr) (x y : Option V), σ = [some (.ref L.p), some (.int k), some (.ref b), x, y] ∧ Same (upd H r (.frz od (.dK (rowK T.cols (T.E k))))) H' ∧ FrA K H' b q' ∧ accT T.hv (T.E k) (T.cols.drop i) q' = some t0) y3 ?_ ?_ ?_ ?_ ?_
      · intro od R q
        have hp : upd H r (.frz od (.dK (rowK T.cols (T.E k)))) L.p = some (.ins C L.dx (flds T.many L.sp L.he L.tb T.unit L.hi)) := by rw [upd_ne (ne t.ins fun _ z => nomatch z)]; exact t.ins
        exact ⟨_, rfl, _, C, _, _, _, rfl, hp, c.cl, c.nT, rfl, _, rfl, L.tb, .ref r, rfl, y1 ▸ DGet.k (k := (.inl k : Key)) (by rw [upd_ne net]; exact g4), q⟩
      · exact fun od => ⟨z, (0, 1), none, none, rfl, Same.refl _, Z0.fr _, h0⟩
      · rintro od i σ H' ⟨b, q', x, y, rfl, s1, _, _⟩
        exact s1 r _ upd_same
      · rintro od i k' v' σ H' Tp D' hi ⟨b, q', x, y, rfl, s1, hb', hacc⟩ hT hD'
        obtain ⟨cc, hcc, rfl, rfl⟩ := row_nth hi
        have hcm : cc ∈ T.cols := List.mem_of_getElem? hcc
        have eb := ok.eb k hb cc hcm
        have s2 : Same H' (upd H' Tp (.tup [kV (.inl cc), .int (T.E k cc)])) := same_new hT
        have hp : upd H r (.frz od (.dK (rowK T.cols (T.E k)))) L.p = some (.ins C L.dx (flds T.many L.sp L.he L.tb T.unit L.hi)) := by rw [upd_ne (ne t.ins fun _ z => nomatch z)]; exact t.ins
        have hh : upd H r (.frz od (.dK (rowK T.cols (T.E k)))) L.he = some (.dK kh) := by rw [upd_ne ner]; exact g3
        have hfr : ∀ {a : Addr} {q : Fr}, FrA K H a q → FrA K (upd H r (.frz od (.dK (rowK T.cols (T.E k))))) a q := fun h => tup_upd h y3 (fun _ z => nomatch z) fun _ _ z => nomatch z
        rw [drop_nth hcc, accT_cons] at hacc
        refine ⟨_, rfl, rfl, _, rfl, ?_⟩
        by_cases e0 : T.E k cc = 0
        · rw [if_pos e0] at hacc
          rw [show (!decide (V.int (T.E k cc) = V.int 0)) = false from by rw [e0]; rfl]
          refine iteF ?_
          show D'.nx _ _
          rw [hD']
          exact ⟨b, q', _, _, rfl, s1.trans s2, hb'.same s2, hacc⟩
        · rw [if_neg e0] at hacc
          rw [show (!decide (V.int (T.E k cc) = V.int 0)) = true from by
            have : ¬ (V.int (T.E k cc) = V.int 0) := fun z => e0 (V.int.inj z)
            rw [decide_eq_false this]
            rfl]
          have hok : (okF q' && okF (T.hv cc) && okF (mulF (T.E k cc, 1) (T.hv cc))) = true := by
            by_cases e1 : (okF q' && okF (T.hv cc) && okF (mulF (T.E k cc, 1) (T.hv cc))) = true
            · exact e1
            · rw [if_neg e1] at hacc
              cases hacc
          rw [if_pos hok] at hacc
          simp only [Bool.and_eq_true] at hok
          obtain ⟨⟨o1, o2⟩, o3⟩ := hok
          obtain ⟨y, w1, a, rfl, ra⟩ := p3.get hcm
          refine iteT ⟨_, rfl, _, rfl, T.E k cc, rfl, fun n1 hn1 => ?_⟩
          have s3 := s2.trans (same_new (o := .tup [.int (T.E k cc), .int 1]) hn1)
          have hp2 := s3 _ _ (s1 _ _ hp)
          have hh2 := s3 _ _ (s1 _ _ hh)
          refine ⟨_, rfl, _, C, _, _, _, rfl, hp2, c.cl, c.nH, rfl, _, rfl, L.he, .ref a, rfl, w1 ▸ DGet.k (k := (.inl cc : Key)) hh2, n1, a, (T.E k cc, 1), T.hv cc, rfl, SqT.of upd_same, ((hfr ra).same s1).same s3, sm_ent eb, (okF_sm o2).1, (by show (1 : Int) ≠ 0; decide), (okF_sm o2).2, fun n2 hn2 => ?_⟩
          have s4 := s3.trans (same_new (o := .tup [.int (mulF (T.E k cc, 1) (T.hv cc)).1, .int (mulF (T.E k cc, 1) (T.hv cc)).2]) hn2)
          refine ⟨b, n2, q', mulF (T.E k cc, 1) (T.hv cc), rfl, hb'.same s4, SqT.of upd_same, (okF_sm o1).1, (okF_sm o3).1, (okF_sm o1).2, (okF_sm o3).2, fun n3 hn3 => ?_⟩
          show D'.nx _ _
          rw [hD']
          exact ⟨n3, addF q' (mulF (T.E k cc, 1) (T.hv cc)), _, _, rfl, (s1.trans s4).trans (same_new hn3), SqT.of upd_same, hacc⟩
      · rintro od σ H' ⟨b, q', x, y, rfl, s1, hb', hacc⟩
        rw [show (rowK T.cols (T.E k)).length = T.cols.length from List.length_map .., List.drop_length] at hacc
        have hacc : some q' = some t0 := hacc
        obtain rfl : q' = t0 := Option.some.inj hacc
        have hok : (okF q' && okF (M.norm 1 T.unit)) = true := by
          by_cases e1 : (okF q' && okF (M.norm 1 T.unit)) = true
          · exact e1
          · rw [if_neg e1] at hq
            cases hq
        rw [if_pos hok] at hq
        cases hq
        simp only [Bool.and_eq_true] at hok
        obtain ⟨o1, o2⟩ := hok
        have sH := same_upd2 y3 s1
        have hp3 := sH _ _ t.ins
        have hb3 : FrA K (upd H' r (.dK (rowK T.cols (T.E k)))) b q' := tup_upd hb' (s1 r _ upd_same) (fun _ z => nomatch z) fun _ _ z => nomatch z
        refine ⟨_, rfl, _, rfl, _, C, _, _, _, rfl, hp3, c.cl, c.nU, rfl, _, _, rfl, by have := ok.pos; omega, small8000 ok.ub, fun n1 hn1 => ?_⟩
        have s4 := same_new (o := .tup [.int (M.norm 1 T.unit).1, .int (M.norm 1 T.unit).2]) hn1
        refine ⟨b, n1, q', M.norm 1 T.unit, rfl, hb3.same s4, SqT.of upd_same, (okF_sm o1).1, (okF_sm o2).1, (okF_sm o1).2, (okF_sm o2).2, fun n2 hn2 => ?_⟩
        exact h n2 _ ((sH.trans s4).trans (same_new hn2)) (SqT.of upd_same)
end
end K24
/-! K24W: point, row_at. -/
namespace K24
open PySem PySem.Spec PyProof.Rows L2
theorem nodup_take {l : List Int} {i : Nat} {j : Int} (n : l.Nodup) (h : l[i]? = some j) : j ∉ l.take i := fun hm => by
  have e := (List.take_append_drop i l).symm
  rw [drop_nth h] at e
  rw [e, List.nodup_append] at n
  exact n.2.2 j hm j List.mem_cons_self rfl
section
variable {P : Program} {w : World} {K : PySem.W.Frag} {mg : Str → Option Value} {base : Heap} {f : Addr} {fd : FuncData} {cI cR C z : Addr}
structure DPo (P : Program) (w : World) (K : PySem.W.Frag) (mg : Str → Option Value) (base : Heap) (C cI : Addr) : Prop where
  value : Dm P w K mg base C "value" 4 ["self", "place"] (spValue K C cI)
def spPoint (K : PySem.W.Frag) (C : Addr) : Sp := fun vs H Q _ => ∃ L T, vs = [.ref L.p] ∧ TabAt K C H L T ∧ T.Ok ∧ 0 ≤ T.many ∧ T.many ≤ T.spans.length ∧ (∀ k, 0 ≤ k → k < T.many → valT T k = some (0, 1)) ∧
  ∀ (a : Addr) H' (bs : List Addr), Same H H' → H' a = some (.tup (bs.map V.ref)) → bs.length = T.many.toNat → (∀ b ∈ bs, FrA K H' b (0, 1)) → Q (.ref a) H'
theorem ok_point (F : Fun K "point" "Tableau.point" s_Tab_point f fd) (c : TC K C) (Z : Bz mg) (D : DPo P w K mg base C cI) : FnOk P w K mg base (L2.CX P w) 5 f fd ["self"] (spPoint K C) := by
  refine F.okX sc_Tab_point (fun vs H Q E h => ?_) (fun cdv A outer s H vs Q E hr h => ?_)
  · obtain ⟨L, T, rfl, _⟩ := h
    rfl
  · obtain ⟨L, T, rfl, t, ok, m0, m1, hv, h⟩ := h
    have hu := hu_of hr
    have nd := sc_Tab_point.nd
    have few := ok.few
    refine ⟨_, (pss_one (ps_ret (pe_tupleOf rfl Z.tuple_ (pe_lc (own := [("at", 1)]) rfl nd (pi_range1 rfl Z.range_ (pa_cons (pe_fldK (K := K) (pv 0) (by rfl) (by rfl)) pa_nil)) (blkOk_by (N := ["self", "at"]) (sc := defScope s_Tab_point) (by decide +kernel)) (fun _ _ _ _ _ => (pg_name (i := 1) nd rfl (Or.inl rfl))) (fun _ _ _ _ _ => pts_nil) (fun _ _ _ _ _ => (pe_dm (pv 0) D.value (hr.mono (by decide)) passL (pa_cons (pv 1) pa_nil))))))), ?_⟩
    refine ⟨_, rfl, _, C, _, _, _, rfl, t.ins, c.cl, c.nM, rfl, T.many, rfl, by omega, by omega, fun D hD => lc_range (lo := 0) (n := T.many.toNat) (fun i H' => Same H H' ∧ ∃ bs : List Addr, H' D = some (.lst (bs.map V.ref)) ∧ bs.length = i ∧ ∀ b ∈ bs, FrA K H' b (0, 1)) ?_ ?_ ?_⟩
    · exact ⟨same_new hD, [], upd_same, rfl, fun b hb => nomatch hb⟩
    · rintro i H' hi ⟨s1, bs, h1, h2, h3⟩
      have t1 := t.same s1
      refine ⟨rfl, ?_⟩
      refine iteT (B := Same H H' ∧ ∃ bs : List Addr, H' D = some (.lst (bs.map V.ref)) ∧ bs.length = i + 1 ∧ ∀ b ∈ bs, FrA K H' b (0, 1)) ?_
      refine ⟨_, rfl, L.p, _, _, rfl, t1.ins, rfl, _, rfl, L, T, _, "int", rfl, t1, ok, .int _, fun e => ?_, fun _ => ⟨0 + (i : Int), (0, 1), rfl, hv _ (by omega) (by omega), fun a H2 s2 ha => ?_⟩⟩
      · have : decide (0 ≤ 0 + (i : Int) ∧ 0 + (i : Int) ≤ (T.spans.length : Int) - 1) = false := e
        simp only [decide_eq_false_iff_not] at this
        omega
      · refine ⟨_, s2 _ _ h1, ?_, same_put (s1.trans s2) hD, bs ++ [a], ?_, by simp [h2], ?_⟩
        · rw [List.length_map, h2]
          exact Nat.lt_of_le_of_lt (by omega : i ≤ 20) (by decide)
        · rw [upd_same, List.map_append]
          rfl
        · intro b hb
          have s3 : ∀ q, FrA K H2 b q → FrA K (upd H2 D (.lst (bs.map V.ref ++ [.ref a]))) b q := fun q hq => tup_upd hq (s2 _ _ h1) (fun _ z => nomatch z) fun _ _ z => nomatch z
          rcases List.mem_append.mp hb with hb | hb
          · exact s3 _ ((h3 b hb).same s2)
          · obtain rfl := List.mem_singleton.mp hb
            exact s3 _ ha
    · rintro H' ⟨s1, bs, h1, h2, h3⟩
      refine .inl ⟨D, _, rfl, SqL.of h1, fun a ha => ?_⟩
      exact h a _ bs (same_put s1 (s1.free ha)) upd_same h2 fun b hb => (h3 b hb).same (same_new ha)
/-! K24W: ### row_at -/
structure DRo (P : Program) (w : World) (K : PySem.W.Frag) (mg : Str → Option Value) (base : Heap) (C cI cR : Addr) : Prop where
  is_number : Dn P w K mg base "is_number" 2 ["value"] (spIsNum K)
  Refused : De P w K mg base "Refused" cR
  columns : Dp P w K mg base C "columns" 1 (spKeys K C Tab.cols)
  fraction_of : Dn P w K mg base "fraction_of" 2 ["top", "bottom"] spFrac
/-- the columns of a row with an entry other than 0, in order -/
def nzs (T : Tab) (k : Int) : List Int := (srt T.cols).filter fun c => decide (T.E k c ≠ 0)
def rowF (T : Tab) (k : Int) : Int → Fr := fun c => M.norm (T.E k c) T.unit
def spRowAt (K : PySem.W.Frag) (C cR : Addr) : Sp := fun vs H Q E => ∃ L T v t, vs = [.ref L.p, v] ∧ TabAt K C H L T ∧ T.Ok ∧ Odd K H v t ∧ (inB T.basis v = false → Err cR "basis" H E) ∧
  (∀ k, v = .int k → k ∈ T.basis → ∀ a H' kvs, Same H H' → H a = none → H' a = some (.dK kvs) → PD (HeldR K H') kvs (nzs T k) (rowF T k) → Q (.ref a) H')
theorem ok_row_at (F : Fun K "row_at" "Tableau.row_at" s_Tab_row_at f fd) (c : TC K C) (Z : Bz mg) (D : DRo P w K mg base C cI cR) : FnOk P w K mg base (L2.CX P w) 3 f fd ["self", "place"] (spRowAt K C cR) := by
  refine F.okX sc_Tab_row_at (fun vs H Q E h => ?_) (fun cdv A outer s H vs Q E hr h => ?_)
  · obtain ⟨L, T, v, t, rfl, _⟩ := h
    rfl
  · obtain ⟨L, T, v, tv, rfl, t, ok, o, h1, h2⟩ := h
    have hu := hu_of hr
    have nd := sc_Tab_row_at.nd
    obtain ⟨kt, g4, p4⟩ := t.table
    refine ⟨_, (pss_cons (ps_if (PW.pt (pw_or (pt_not (pt_val (pe_dn D.is_number (hr.mono (by decide)) rfl passL (pa_cons (pv 1) pa_nil)))) (pw_or1 (pt_cmp (pc_dnotin (by exact hu) (pv 1) (pe_fldK (K := K) (pv 0) (by rfl) (by rfl))))))) (pss_one (ps_err D.Refused rfl (takes_of rfl rfl rfl rfl) (hr.mono (by decide)) rfl pe_str)) pss_nil)
      (pss_cons (ps_set (i := 2) nd rfl (Or.inr rfl) (pe_dget (by exact hu) (pe_fldK (K := K) (pv 0) (by rfl) (by rfl)) (pv 1) (fun _ _ => rfl)))
      (pss_one (ps_ret (pe_dc (own := [("column", 3)]) rfl nd (pi_tup (pe_dp (pv 0) D.columns (hr.mono (by decide)))) (blkOk_by (N := ["self", "place", "row", "column"]) (sc := defScope s_Tab_row_at) (by decide +kernel)) (fun _ _ _ _ _ => (pg_name (i := 3) nd rfl (Or.inl rfl))) (fun _ _ _ _ _ => pts_one (pt_cmpR op_ne (pe_dget (by exact hu) (pv 2) (pv 3) (fun _ _ => rfl)) pe_int (nomark _))) (fun _ _ _ _ _ => (pv 3)) (fun _ _ _ _ _ => (pe_dn D.fraction_of (hr.mono (by decide)) rfl passL (pa_cons (pe_dget (by exact hu) (pv 2) (pv 3) (fun _ _ => rfl)) (pa_cons (pe_fldK (K := K) (pv 0) (by rfl) (by rfl)) pa_nil))))))))), ?_⟩
    refine key_test rfl o g4 p4 (fun R q => rd_table c t.ins rfl q) (fun e => err_leaf fun d H' => h1 e d H') fun e => ?_
    obtain ⟨k, rfl, _, hk⟩ := inB_isN e
    have h := h2 k rfl hk
    obtain ⟨y, y1, r, rfl, rr, y3⟩ := p4.get hk
    refine ⟨_, rfl, _, C, _, _, _, rfl, t.ins, c.cl, c.nT, rfl, _, rfl, L.tb, .ref r, rfl, y1 ▸ DGet.k (k := (.inl k : Key)) g4, ?_⟩
    refine ⟨_, rfl, _, _, _, rfl, t.ins, L, T, rfl, t, fun ca H1 s1 na hca => ⟨ca, rfl, ⟨_, SqT.of hca⟩, fun d hd => dc_by (J := Itt K ca) (n := T.cols.length) (fun i H' => Same H1 H' ∧ ∃ kvs, H' d = some (.dK kvs) ∧ PD (HeldR K H') kvs (((srt T.cols).take i).filter fun c => decide (T.E k c ≠ 0)) (rowF T k)) ?_ ?_ ?_ ?_ ?_⟩⟩
    · exact ⟨same_new hd, [], upd_same, by rw [List.take_zero]; exact .nil⟩
    · rintro i H' hi ⟨s2, _⟩
      have hi' : i < (srt T.cols).length := by rw [srt_length]; exact hi
      exact ⟨_, .int ((srt T.cols)[i]'hi'), SqT.of (s2 _ _ hca), by rw [List.getElem?_map, List.getElem?_eq_getElem hi']; rfl⟩
    · rintro H' ⟨s2, _⟩
      exact ⟨_, SqT.of (s2 _ _ hca), by rw [List.length_map, srt_length]; exact Nat.le_refl _⟩
    · rintro i H' x H2 hi ⟨s2, kvs, e2, p2⟩ hyl
      obtain ⟨rfl, hx⟩ := hyl
      have hx := hx _ (SqT.of (s2 _ _ hca))
      have hi' : i < (srt T.cols).length := by rw [srt_length]; exact hi
      obtain ⟨j, hj⟩ : ∃ j, (srt T.cols)[i]? = some j := ⟨_, List.getElem?_eq_getElem hi'⟩
      rw [List.getElem?_map, hj] at hx
      obtain rfl : V.int j = x := Option.some.inj hx
      have hjm : j ∈ T.cols := srt_mem.mp (List.mem_of_getElem? hj)
      have sr := (s1.trans s2) _ _ y3
      have gr : ∀ H3 : Hp, Same H2 H3 → DGet H3 r (.int j) (some (.int (T.E k j))) := fun H3 s3 => rowK_get hjm ▸ DGet.k (k := (.inl j : Key)) (s3 _ _ sr)
      refine ⟨rfl, _, rfl, _, rfl, r, _, rfl, gr H2 (Same.refl _), rfl, _, rfl, ?_⟩
      by_cases e0 : T.E k j = 0
      · rw [show (!decide (V.int (T.E k j) = V.int 0)) = false from by rw [e0]; rfl]
        refine iteF ⟨s2, kvs, e2, ?_⟩
        rw [take_snoc hj, List.filter_append]
        simpa [e0] using p2
      · rw [show (!decide (V.int (T.E k j) = V.int 0)) = true from by
          have : ¬ (V.int (T.E k j) = V.int 0) := fun z => e0 (V.int.inj z)
          rw [decide_eq_false this]
          rfl]
        have hp := (s1.trans s2) _ _ t.ins
        refine iteT ⟨_, rfl, _, rfl, _, rfl, r, _, rfl, gr H2 (Same.refl _), _, rfl, _, C, _, _, _, rfl, hp, c.cl, c.nU, rfl, _, _, rfl, by have := ok.pos; omega, small8000 ok.ub, fun n hn => ?_⟩
        have s3 := same_new (o := .tup [.int (M.norm (T.E k j) T.unit).1, .int (M.norm (T.E k j) T.unit).2]) hn
        have pl : kvs.length ≤ 20 := by
          rw [p2.length]
          refine Nat.le_trans (List.length_filter_le ..) (Nat.le_trans (List.length_take_le' ..) ?_)
          rw [srt_length]
          exact ok.cl
        refine ⟨kvs, .inl j, rfl, s3 _ _ e2, Nat.lt_of_le_of_lt pl (by decide), same_put (s2.trans s3) hd, _, upd_same, ?_⟩
        have nj : j ∉ ((srt T.cols).take i).filter fun c => decide (T.E k c ≠ 0) := fun hm => by
          exact nodup_take (srt_nodup ok.nc) hj (List.mem_filter.mp hm).1
        have p2' : PD (HeldR K (upd H2 n (.tup [.int (M.norm (T.E k j) T.unit).1, .int (M.norm (T.E k j) T.unit).2]))) kvs _ (rowF T k) := p2.imp fun v x ⟨a, e, h⟩ => ⟨a, e, h.same s3⟩
        have p3 := (PD.new (x := rowF T k j) (v := .ref n) p2' nj ⟨n, rfl, SqT.of upd_same⟩).congr (g' := rowF T k) fun c _ => by
          by_cases e : c = j
          · rw [e]; simp
          · simp [e]
        rw [take_snoc hj, List.filter_append]
        have e9 : ([j].filter fun c => decide (T.E k c ≠ 0)) = [j] := by simp [e0]
        rw [e9]
        refine p3.imp fun v x hh => ?_
        obtain ⟨a, e, h⟩ := hh
        exact ⟨a, e, tup_upd h (s3 _ _ e2) (fun _ z => nomatch z) fun _ _ z => nomatch z⟩
    · rintro H' ⟨s2, kvs, e2, p2⟩
      rw [← srt_length T.cols, take_all] at p2
      exact h d H' kvs (s1.trans s2) (s1.free hd) e2 p2
end
end K24
/-! K24Y: exchanged_row. -/
namespace K24
open PySem PySem.Spec PyProof.Rows L2
theorem dget_rd {H : Hp} {a : Addr} {kvs : List (Key × V)} {k : Key} (e : Rd H a (.dK kvs)) : DGet H a (kV k) (valV kvs k) := .inl ⟨kvs, k, e, rfl, rfl⟩
/-- a dict is read though another, or itself, is locked -/
theorem rd_lock {H : Hp} {r a : Addr} {od : Obj} {kvs kvs' : List (Key × V)} (hr : H r = some (.dK kvs)) (ha : H a = some (.dK kvs')) : Rd (upd H r (.frz od (.dK kvs))) a (.dK kvs') := by
  by_cases e : a = r
  · subst e
    rw [ha] at hr
    cases hr
    exact .inr ⟨od, upd_same⟩
  · exact .inl (by rw [upd_ne e]; exact ha)
theorem rd_same {H H' : Hp} {a : Addr} {u : HO} (s : Same H H') (h : Rd H a u) : Rd H' a u := by
  rcases h with h | ⟨o, h⟩
  · exact .inl (s _ _ h)
  · exact .inr ⟨o, s _ _ h⟩
theorem b1500 {x : Int} (h : x.natAbs < 2 ^ 700) : x.natAbs < 2 ^ 1500 := Nat.lt_of_lt_of_le h (Nat.pow_le_pow_right (by decide) (by decide))
theorem b_prod {x y : Int} (h : x.natAbs < 2 ^ 700) (h' : y.natAbs < 2 ^ 700) : (x * y).natAbs < 2 ^ 1400 := by
  rw [Int.natAbs_mul, show 1400 = 700 + 700 from rfl, Nat.pow_add]
  exact Nat.mul_lt_mul'' h h'
theorem b_diff {x y : Int} (h : x.natAbs < 2 ^ 1400) (h' : y.natAbs < 2 ^ 1400) : (x - y).natAbs < 2 ^ 1500 := by
  have h1 : (x - y).natAbs ≤ x.natAbs + y.natAbs := by omega
  have h2 : x.natAbs + y.natAbs < 2 ^ 1400 + 2 ^ 1400 := Nat.add_lt_add h h'
  have h3 : 2 ^ 1400 + 2 ^ 1400 ≤ (2 ^ 1500 : Nat) := by
    rw [show 1500 = 1400 + 1 + 99 from rfl, Nat.pow_add, Nat.pow_succ]
    generalize (2 ^ 1400 : Nat) = z
    have : (2 ^ 99 : Nat) = 633825300114114700748351602688 := by decide
    rw [this]
    omega
  exact Nat.lt_of_le_of_lt h1 (Nat.lt_of_lt_of_le h2 h3)
theorem b_sg (a : Int) : (M.sg a).natAbs < 2 ^ 1500 := by
  have : (M.sg a).natAbs = 1 := by rcases M.sg_cases a with h | h <;> rw [h] <;> rfl
  rw [this]
  exact Nat.one_lt_two_pow (by decide)
/-- the row of another place behind an exchange -/
def exRow (e ep : Int → Int) (P Q u : Int) : Int → Int := fun c => if c = P then M.sg (ep Q) * e Q else M.sg (ep Q) * (e c * ep Q - e Q * ep c) / u
def exCols (cols : List Int) (P Q : Int) : List Int := (cols.filter fun j => decide (j ≠ Q)) ++ [P]
theorem same_lock {H : Hp} {f r : Addr} {o u : HO} (hf : H f = none) (n : f ≠ r) : Same (upd H r o) (upd (upd H f u) r o) := fun b v e => by
  by_cases hb : b = r
  · subst hb
    rw [upd_same] at e ⊢
    exact e
  · rw [upd_ne hb] at e ⊢
    rw [upd_ne (ne_of_none e hf)]
    exact e
theorem row_new {ks : List Int} {g : Int → Int} {k : Int} (hk : k ∉ ks) : putK (rowK ks g) (.inl k : Key) (.int (g k)) = rowK (ks ++ [k]) g :=
  (((PD.row ks g).new hk (v := .int (g k)) (x := g k) rfl).congr (g' := g) fun j _ => by
    by_cases e : j = k
    · rw [e]; simp
    · simp [e]).to_row
theorem rowK_length (ks : List Int) (g : Int → Int) : (rowK ks g).length = ks.length := List.length_map ..
theorem fil_len (l : List Int) (i : Nat) (p : Int → Bool) : ((l.take i).filter p).length ≤ l.length := Nat.le_trans (List.length_filter_le ..) (List.length_take_le' ..)
section
variable {P : Program} {w : World} {K : PySem.W.Frag} {mg : Str → Option Value} {base : Heap} {f : Addr} {fd : FuncData} {cI cR C z : Addr}
structure RowsIn (H : Hp) (r pr : Addr) (cols : List Int) (e ep : Int → Int) (pl cl u : Int) : Prop where
  r1 : H r = some (.dK (rowK cols e))
  r2 : H pr = some (.dK (rowK cols ep))
  nP : pl ∉ cols
  mQ : cl ∈ cols
  nd : cols.Nodup
  len : cols.length ≤ 20
  be : ∀ c ∈ cols, (e c).natAbs < 2 ^ 700
  bp : ∀ c ∈ cols, (ep c).natAbs < 2 ^ 700
  u0 : 0 < u
  bu : u.natAbs < 2 ^ 700
  nz : ep cl ≠ 0
def spExRow (C : Addr) : Sp := fun vs H Q _ => ∃ p r pr pl cl dx m sp he tb u hi cols e ep, vs = [.ref p, .ref r, .ref pr, .int pl, .int cl] ∧ H p = some (.ins C dx (flds m sp he tb u hi)) ∧ RowsIn H r pr cols e ep pl cl u ∧
  ∀ d H', Same H H' → H d = none → H' d = some (.dK (rowK (exCols cols pl cl) (exRow e ep pl cl u))) → Q (.ref d) H'
theorem ok_exchanged_row (F : Fun K "exchanged_row" "Tableau.exchanged_row" s_Tab_exchanged_row f fd) (c : TC K C) : FnOk P w K mg base (L2.CX P w) 1 f fd ["self", "row", "pivot_row", "place", "column"] (spExRow C) := by
  refine F.okX sc_Tab_exchanged_row (fun vs H Q E h => ?_) (fun cdv A outer s H vs Q E hr h => ?_)
  · obtain ⟨_, _, _, _, _, _, _, _, _, _, _, _, _, _, _, rfl, _⟩ := h
    rfl
  · obtain ⟨p, r, pr, pl, cl, dx, m, sp, he, tb, u, hia, cols, e, ep, rfl, ins, R, h⟩ := h
    have hu := hu_of hr
    have nd := sc_Tab_exchanged_row.nd
    refine ⟨_, (pss_cons (ps_par (i := 5) (j := 6) rfl nd rfl rfl (by decide) rfl rfl (pa_cons (pe_dget (by exact hu) (pv 2) (pv 4) (fun _ _ => rfl)) (pa_cons (pe_dget (by exact hu) (pv 1) (pv 4) (fun _ _ => rfl)) pa_nil)) (by rfl))
      (pss_cons (ps_set (i := 7) nd rfl (Or.inl rfl) (pe_ifExp (pt_cmpR op_gt (pv 5) pe_int (nomark _)) pe_int (pe_un un_neg pe_int)))
      (pss_cons (ps_set (i := 8) nd rfl (Or.inl rfl) pe_dnewK)
      (pss_cons (ps_lock (ps_for (passes_of rfl) rfl (pi_items (pv 1)) (pg_tupK (K := K) (n := 2) rfl (pgs_cons (pg_name (i := 9) nd rfl (Or.inl rfl)) (pgs_cons (pg_name (i := 10) nd rfl (Or.inl rfl)) pgs_nil)) (by rfl)) (pss_one (ps_if (pt_cmpR op_ne (pv 9) (pv 4) (nomark _)) (pss_one (ps_dput (by exact hu) (pv 8) (pv 9) (pe_op op_fdivS (pe_op op_mulW (pv 7) (pe_op op_sub (pe_op op_mulW (pv 10) (pv 5)) (pe_op op_mulW (pv 6) (pe_dget (by exact hu) (pv 2) (pv 9) (fun _ _ => rfl))))) (pe_fldK (K := K) (pv 0) (by rfl) (by rfl))) rfl)) pss_nil))))
      (pss_cons (ps_dput (by exact hu) (pv 8) (pv 3) (pe_op op_mulW (pv 7) (pv 6)) rfl)
      (pss_one (ps_ret (pv 8)))))))), ?_⟩
    refine ⟨_, rfl, _, rfl, pr, _, rfl, rowK_get R.mQ ▸ DGet.k (k := (.inl cl : Key)) R.r2, _, rfl, _, rfl, r, _, rfl, rowK_get R.mQ ▸ DGet.k (k := (.inl cl : Key)) R.r1, _, _, rfl, ?_⟩
    refine ⟨_, rfl, _, _, rfl, rfl, _, rfl, ?_⟩
    have fin : ∀ (H' : Hp) (fd : Addr), Same H H' → H fd = none → H' fd = some (.dK (rowK (cols.filter fun j => decide (j ≠ cl)) (exRow e ep pl cl u))) → Q (.ref fd) (upd H' fd (.dK (putK (rowK (cols.filter fun j => decide (j ≠ cl)) (exRow e ep pl cl u)) (.inl pl) (.int (M.sg (ep cl) * e cl))))) := fun H' fd s1 hn hd => by
      have e1 : exRow e ep pl cl u pl = M.sg (ep cl) * e cl := if_pos rfl
      rw [← e1, row_new (fun hm => R.nP (List.mem_filter.mp hm).1)]
      exact h fd _ (same_put s1 hn) hn upd_same
    by_cases h0 : 0 < ep cl
    · rw [decide_eq_true h0]
      have hsg : M.sg (ep cl) = 1 := M.sg_pos h0
      refine iteT ?_
      refine fun f hf => for_items (K := K) (d := r) (fun od i σ H' => ∃ x y, σ = [some (.ref p), some (.ref r), some (.ref pr), some (.int pl), some (.int cl), some (.int (ep cl)), some (.int (e cl)), some (.int (M.sg (ep cl))), some (.ref f), x, y] ∧ Same (upd H r (.frz od (.dK (rowK cols e)))) H' ∧ H' f = some (.dK (rowK ((cols.take i).filter fun j => decide (j ≠ cl)) (exRow e ep pl cl u)))) (by rw [upd_ne (ne_of_none R.r1 hf)]; exact R.r1) ?_ ?_ ?_ ?_ ?_
      · exact fun od R q => ⟨_, rfl, q⟩
      · have nf := (ne_of_none R.r1 hf).symm
        exact fun od => ⟨none, none, by rw [hsg]; rfl, same_lock hf nf, by rw [upd_ne nf, upd_same]; rfl⟩
      · rintro od i σ H' ⟨x, y, rfl, s1, _⟩
        exact s1 r _ upd_same
      · rintro od i k' v' σ H' Tp D' hi ⟨x, y, rfl, s1, hF⟩ hT hD'
        obtain ⟨cc, hcc, rfl, rfl⟩ := row_nth hi
        have hcm : cc ∈ cols := List.mem_of_getElem? hcc
        have s2 : Same H' (upd H' Tp (.tup [kV (.inl cc), .int (e cc)])) := same_new hT
        have hp : upd H r (.frz od (.dK (rowK cols e))) p = some (.ins C dx (flds m sp he tb u hia)) := by rw [upd_ne (ne_of ins R.r1 (by intro z; cases z))]; exact ins
        have hp2 := s2 _ _ (s1 _ _ hp)
        have hF2 := s2 _ _ hF
        refine ⟨_, rfl, _, rfl, rfl, _, rfl, ?_⟩
        by_cases e0 : cc = cl
        · rw [show (!decide (kV (Sum.inl cc : Key) = V.int cl)) = false from by rw [e0]; show (!decide (V.int cl = V.int cl)) = false; simp]
          refine iteF ?_
          show D'.nx _ _
          rw [hD']
          refine ⟨_, _, rfl, s1.trans s2, ?_⟩
          subst e0
          rw [take_snoc hcc, List.filter_append, show ([cc].filter fun j => decide (j ≠ cc)) = [] from by simp, List.append_nil]
          exact hF2
        · rw [show (!decide (kV (Sum.inl cc : Key) = V.int cl)) = true from by
            have : ¬ (kV (Sum.inl cc : Key) = V.int cl) := fun z => e0 (V.int.inj z)
            rw [decide_eq_false this]
            rfl]
          have hpr : Rd (upd H' Tp (.tup [kV (.inl cc), .int (e cc)])) pr (.dK (rowK cols ep)) := rd_same (s1.trans s2) (rd_lock R.r1 R.r2)
          have b1 := b_prod (R.be cc hcm) (R.bp cl R.mQ)
          have b2 := b_prod (R.be cl R.mQ) (R.bp cc hcm)
          refine iteT ⟨_, rfl, _, rfl, _, rfl, _, _, rfl, rfl, sm_mul (b1500 (R.be cc hcm)) (b1500 (R.bp cl R.mQ)), _, rfl, _, rfl, _, rfl, pr, _, rfl, rowK_get hcm ▸ dget_rd (k := (.inl cc : Key)) hpr, _, _, rfl, rfl, sm_mul (b1500 (R.be cl R.mQ)) (b1500 (R.bp cc hcm)), _, _, rfl, rfl, _, _, rfl, rfl, sm_mul (b_sg _) (b_diff b1 b2),
            _, rfl, _, C, _, _, _, rfl, hp2, c.cl, c.nU, rfl, _, _, rfl, rfl, ⟨by have := R.u0; omega, (cdivS (i := 0) (by have := R.u0; omega) R.bu (by decide) (by decide)).2⟩, _, rfl, _, rfl, f, _, rfl, DPut.k (k := (.inl cc : Key)) hF2 ?_, ?_⟩
          · rw [rowK_length]
            exact Nat.lt_of_le_of_lt (fil_len ..) (Nat.lt_of_le_of_lt R.len (by decide))
          · show D'.nx _ _
            rw [hD']
            have ev : exRow e ep pl cl u cc = (M.sg (ep cl) * (e cc * ep cl - e cl * ep cc)).fdiv u := by
              have hne : cc ≠ pl := fun z => R.nP (z ▸ hcm)
              unfold exRow
              rw [if_neg hne, Int.fdiv_eq_ediv_of_nonneg _ (by have := R.u0; omega)]
            refine ⟨_, _, rfl, same_put (s1.trans s2) ?_, ?_⟩
            · rw [upd_ne (ne_of_none R.r1 hf).symm]
              exact hf
            · rw [upd_same, take_snoc hcc, List.filter_append, show ([cc].filter fun j => decide (j ≠ cl)) = [cc] from by simp [e0], ← row_new (fun hm => nodup_take R.nd hcc (List.mem_filter.mp hm).1), ev]
      · rintro od σ H' ⟨x, y, rfl, s1, hF⟩
        rw [rowK_length, take_all] at hF
        have sH := same_upd2 R.r1 s1
        have hF2 : upd H' r (.dK (rowK cols e)) f = some (.dK (rowK (cols.filter fun j => decide (j ≠ cl)) (exRow e ep pl cl u))) := by rw [upd_ne (ne_of_none R.r1 hf).symm]; exact hF
        refine ⟨_, rfl, _, rfl, _, _, rfl, rfl, sm_mul (b_sg _) (b1500 (R.be cl R.mQ)), _, rfl, _, rfl, f, _, rfl, DPut.k (k := (.inl pl : Key)) hF2 ?_, _, rfl, fin _ f sH hf hF2⟩
        rw [rowK_length]
        exact Nat.lt_of_le_of_lt (List.length_filter_le ..) (Nat.lt_of_le_of_lt R.len (by decide))
    · rw [decide_eq_false h0]
      have hsg : M.sg (ep cl) = -1 := M.sg_neg (by have := R.nz; omega)
      refine iteF ⟨_, rfl, ?_⟩
      refine fun f hf => for_items (K := K) (d := r) (fun od i σ H' => ∃ x y, σ = [some (.ref p), some (.ref r), some (.ref pr), some (.int pl), some (.int cl), some (.int (ep cl)), some (.int (e cl)), some (.int (M.sg (ep cl))), some (.ref f), x, y] ∧ Same (upd H r (.frz od (.dK (rowK cols e)))) H' ∧ H' f = some (.dK (rowK ((cols.take i).filter fun j => decide (j ≠ cl)) (exRow e ep pl cl u)))) (by rw [upd_ne (ne_of_none R.r1 hf)]; exact R.r1) ?_ ?_ ?_ ?_ ?_
      · exact fun od R q => ⟨_, rfl, q⟩
      · have nf := (ne_of_none R.r1 hf).symm
        exact fun od => ⟨none, none, by rw [hsg]; rfl, same_lock hf nf, by rw [upd_ne nf, upd_same]; rfl⟩
      · rintro od i σ H' ⟨x, y, rfl, s1, _⟩
        exact s1 r _ upd_same
      · rintro od i k' v' σ H' Tp D' hi ⟨x, y, rfl, s1, hF⟩ hT hD'
        obtain ⟨cc, hcc, rfl, rfl⟩ := row_nth hi
        have hcm : cc ∈ cols := List.mem_of_getElem? hcc
        have s2 : Same H' (upd H' Tp (.tup [kV (.inl cc), .int (e cc)])) := same_new hT
        have hp : upd H r (.frz od (.dK (rowK cols e))) p = some (.ins C dx (flds m sp he tb u hia)) := by rw [upd_ne (ne_of ins R.r1 (by intro z; cases z))]; exact ins
        have hp2 := s2 _ _ (s1 _ _ hp)
        have hF2 := s2 _ _ hF
        refine ⟨_, rfl, _, rfl, rfl, _, rfl, ?_⟩
        by_cases e0 : cc = cl
        · rw [show (!decide (kV (Sum.inl cc : Key) = V.int cl)) = false from by rw [e0]; show (!decide (V.int cl = V.int cl)) = false; simp]
          refine iteF ?_
          show D'.nx _ _
          rw [hD']
          refine ⟨_, _, rfl, s1.trans s2, ?_⟩
          subst e0
          rw [take_snoc hcc, List.filter_append, show ([cc].filter fun j => decide (j ≠ cc)) = [] from by simp, List.append_nil]
          exact hF2
        · rw [show (!decide (kV (Sum.inl cc : Key) = V.int cl)) = true from by
            have : ¬ (kV (Sum.inl cc : Key) = V.int cl) := fun z => e0 (V.int.inj z)
            rw [decide_eq_false this]
            rfl]
          have hpr : Rd (upd H' Tp (.tup [kV (.inl cc), .int (e cc)])) pr (.dK (rowK cols ep)) := rd_same (s1.trans s2) (rd_lock R.r1 R.r2)
          have b1 := b_prod (R.be cc hcm) (R.bp cl R.mQ)
          have b2 := b_prod (R.be cl R.mQ) (R.bp cc hcm)
          refine iteT ⟨_, rfl, _, rfl, _, rfl, _, _, rfl, rfl, sm_mul (b1500 (R.be cc hcm)) (b1500 (R.bp cl R.mQ)), _, rfl, _, rfl, _, rfl, pr, _, rfl, rowK_get hcm ▸ dget_rd (k := (.inl cc : Key)) hpr, _, _, rfl, rfl, sm_mul (b1500 (R.be cl R.mQ)) (b1500 (R.bp cc hcm)), _, _, rfl, rfl, _, _, rfl, rfl, sm_mul (b_sg _) (b_diff b1 b2),
            _, rfl, _, C, _, _, _, rfl, hp2, c.cl, c.nU, rfl, _, _, rfl, rfl, ⟨by have := R.u0; omega, (cdivS (i := 0) (by have := R.u0; omega) R.bu (by decide) (by decide)).2⟩, _, rfl, _, rfl, f, _, rfl, DPut.k (k := (.inl cc : Key)) hF2 ?_, ?_⟩
          · rw [rowK_length]
            exact Nat.lt_of_le_of_lt (fil_len ..) (Nat.lt_of_le_of_lt R.len (by decide))
          · show D'.nx _ _
            rw [hD']
            have ev : exRow e ep pl cl u cc = (M.sg (ep cl) * (e cc * ep cl - e cl * ep cc)).fdiv u := by
              have hne : cc ≠ pl := fun z => R.nP (z ▸ hcm)
              unfold exRow
              rw [if_neg hne, Int.fdiv_eq_ediv_of_nonneg _ (by have := R.u0; omega)]
            refine ⟨_, _, rfl, same_put (s1.trans s2) ?_, ?_⟩
            · rw [upd_ne (ne_of_none R.r1 hf).symm]
              exact hf
            · rw [upd_same, take_snoc hcc, List.filter_append, show ([cc].filter fun j => decide (j ≠ cl)) = [cc] from by simp [e0], ← row_new (fun hm => nodup_take R.nd hcc (List.mem_filter.mp hm).1), ev]
      · rintro od σ H' ⟨x, y, rfl, s1, hF⟩
        rw [rowK_length, take_all] at hF
        have sH := same_upd2 R.r1 s1
        have hF2 : upd H' r (.dK (rowK cols e)) f = some (.dK (rowK (cols.filter fun j => decide (j ≠ cl)) (exRow e ep pl cl u))) := by rw [upd_ne (ne_of_none R.r1 hf).symm]; exact hF
        refine ⟨_, rfl, _, rfl, _, _, rfl, rfl, sm_mul (b_sg _) (b1500 (R.be cl R.mQ)), _, rfl, _, rfl, f, _, rfl, DPut.k (k := (.inl pl : Key)) hF2 ?_, _, rfl, fin _ f sH hf hF2⟩
        rw [rowK_length]
        exact Nat.lt_of_le_of_lt (List.length_filter_le ..) (Nat.lt_of_le_of_lt R.len (by decide))
end
end K24
/-! K24Z: exchange. -/
namespace K24
open PySem PySem.Spec PyProof.Rows L2
/-- name = {k: v for a, b in d.items() if t}: the dict locked meanwhile -/
theorem dc_items {K : PySem.W.Frag} {td : TE} {a b i : Nat} {tt : TT} {tk tv : TE} {Dn : Ends} {σ : L2.St} {H : Hp} {d : Addr} {kvs : List (Key × V)} (Pv : Obj → Addr → Nat → Hp → Prop) (hd : H d = some (.dK kvs))
    (htd : ∀ od (R : VK), R (.ref d) (upd H d (.frz od (.dK kvs))) → td σ (upd H d (.frz od (.dK kvs))) R) (h0 : ∀ od D, H D = none → Pv od D 0 (upd (upd H d (.frz od (.dK kvs))) D (.dK []))) (hl : ∀ od D j H', Pv od D j H' → H' d = some (.frz od (.dK kvs)))
    (hs : ∀ od D j k v H' T, H D = none → kvs[j]? = some (k, v) → Pv od D j H' → H' T = none → wipe (((wipe σ [a, b]).set a (some (kV k))).set b (some v)) [a, b] = wipe σ [a, b] ∧ tt (((wipe σ [a, b]).set a (some (kV k))).set b (some v)) (upd H' T (.tup [kV k, v])) fun bb H3 =>
      if bb = true then tk (((wipe σ [a, b]).set a (some (kV k))).set b (some v)) H3 fun y H4 => tv (((wipe σ [a, b]).set a (some (kV k))).set b (some v)) H4 fun z H5 => ∃ kvs k, y = kV k ∧ H5 D = some (.dK kvs) ∧ kvs.length < sizeLine ∧ Pv od D (j + 1) (upd H5 D (.dK (putK kvs k z))) else Pv od D (j + 1) H3)
    (he : ∀ od D H', H D = none → Pv od D kvs.length H' → Dn.nx (σ.set i (some (.ref D))) (upd H' d (.dK kvs))) : tLock (tAsg (tDc (iItems td) (gTup K 2 (gCons (gName a) (gCons (gName b) gNil))) tt tk tv [a, b]) (gName i)) Dn σ H := by
  refine ⟨d, _, hd, True.intro, fun od => htd od _ ⟨d, od, kvs, rfl, upd_same, fun D hD => ?_⟩⟩
  have hD' : H D = none := by
    by_cases e : D = d
    · subst e
      rw [upd_same] at hD
      cases hD
    · rwa [upd_ne e] at hD
  refine dc_by (J := Iti d od kvs) (n := kvs.length) (Pv od D) (h0 od D hD') (fun j H' lt p => ⟨hl od D j H' p, lt⟩) (fun H' p => ⟨hl od D _ H' p, Nat.le_refl _⟩) ?_ fun H' p => ⟨hl od D _ H' p, he od D H' hD' p⟩
  rintro j H' x H2 lt p ⟨T, k, v, e1, rfl, hT, rfl⟩
  exact ⟨T, _, rfl, SqT.of upd_same, rfl, _, _, rfl, _, _, rfl, rfl, hs od D j k v H' T hD' e1 p hT⟩
def exT (T : Tab) (P Q : Int) (q : Fr) : Tab where
  many := T.many
  spans := T.spans
  cols := exCols T.cols P Q
  hv := fun c => if c = P then q else T.hv c
  basis := (T.basis.filter fun j => decide (j ≠ P)) ++ [Q]
  E := M.exE T.E T.unit P Q
  unit := ((T.E P Q).natAbs : Int)
  log := T.log
/-- what is new is new -/
structure Grow (H : Hp) (L L' : Lay) : Prop where
  p : L'.p = L.p
  fp : ∀ b ∈ L'.fp, b ∈ L.fp ∨ H b = none
  rows : ∀ b, L'.rows b → L.rows b ∨ H b = none
section
variable {P : Program} {w : World} {K : PySem.W.Frag} {mg : Str → Option Value} {base : Heap} {f : Addr} {fd : FuncData} {cI cR C z : Addr}
structure DX (P : Program) (w : World) (K : PySem.W.Frag) (mg : Str → Option Value) (base : Heap) (C cI cR : Addr) : Prop where
  check_pair : Dm P w K mg base C "check_pair" 3 ["self", "place", "column"] (spCheck K C cR)
  value : Dm P w K mg base C "value" 4 ["self", "place"] (spValue K C cI)
  exchanged_row : Dm P w K mg base C "exchanged_row" 1 ["self", "row", "pivot_row", "place", "column"] (spExRow C)
  between_ends : Dn P w K mg base "between_ends" 2 ["value", "ends"] (spBetw K)
  Refused : De P w K mg base "Refused" cR
theorem spans_same {H H' : Hp} (s : Same H H') {ss : List Addr} {es : List Ends2} (h : Paired (EndsA K H) ss es) : Paired (EndsA K H') ss es := keep_spans (same_keep s []) (fun b hb => nomatch hb) h
theorem held_same {H H' : Hp} (s : Same H H') {kvs : List (Key × V)} {ks : List Int} {g : Int → Fr} (h : PD (HeldR K H) kvs ks g) : PD (HeldR K H') kvs ks g := keep_held (same_keep s []) (fun b hb => nomatch hb) h
theorem rows_same {H H' : Hp} {rows : Addr → Prop} {cols : List Int} (s : Same H H') {kvs : List (Key × V)} {ks : List Int} {g : Int → Int → Int} (h : PD (RowR H rows cols) kvs ks g) : PD (RowR H' rows cols) kvs ks g := keep_rows (same_keep s []) (fun b hb => nomatch hb) h
theorem same_put2 {H H' : Hp} {a : Addr} {o : HO} (s : Same H H') (h : H a = none) : Same H (upd H' a o) := same_put s h
theorem nth_ends {H : Hp} {ss : List Addr} {es : List Ends2} (h : Paired (EndsA K H) ss es) {n : Nat} {e : Ends2} (he : es[n]? = some e) : ∃ a, ss[n]? = some a ∧ EndsA K H a e := by
  induction h generalizing n with
  | nil => simp at he
  | @cons a b l1 l2 x t ih =>
    cases n with
    | zero =>
      obtain rfl : b = e := by simpa using he
      exact ⟨a, rfl, x⟩
    | succ n => exact ih (n := n) (by simpa using he)
def SmE (e : Ends2) : Prop := SmO e.1 ∧ SmO e.2
def spExch (K : PySem.W.Frag) (C cR : Addr) : Sp := fun vs H Q E => ∃ L T v t c t', vs = [.ref L.p, v, c] ∧ TabAt K C H L T ∧ T.Ok ∧ Odd K H v t ∧ Odd K H c t' ∧
  (inB T.basis v = false → Err cR "basis" H E) ∧ (inB T.basis v = true → inB T.cols c = false → Err cR "column" H E) ∧
  (∀ i j, v = .int i → c = .int j → i ∈ T.basis → j ∈ T.cols → (T.E i j = 0 → Err cR "zero" H E) ∧ (T.E i j ≠ 0 → ∃ q e, valT T i = some q ∧ T.spans[i.toNat]? = some e ∧ Sm q ∧ SmE e ∧
    ∀ L' H', Keep L.fp H H' → Grow H L L' → TabAt K C H' L' (exT T i j (betw q e)) → Q .non H'))
theorem ok_exchange (F : Fun K "exchange" "Tableau.exchange" s_Tab_exchange f fd) (c : TC K C) (Z : Bz mg) (D : DX P w K mg base C cI cR) : FnOk P w K mg base (L2.CX P w) 5 f fd ["self", "place", "column"] (spExch K C cR) := by
  refine F.okX sc_Tab_exchange (fun vs H Q E h => ?_) (fun cdv A outer s H vs Q E hr h => ?_)
  · obtain ⟨L, T, v, t, x, t', rfl, _⟩ := h
    rfl
  · obtain ⟨L, T, v, tv, x, tx, rfl, t, ok, ov, ox, h1, h2, h3⟩ := h
    have hu := hu_of hr
    have nd := sc_Tab_exchange.nd
    refine ⟨_, (pss_cons (ps_expr (pe_dm (pv 0) D.check_pair (hr.mono (by decide)) (passes_call (takes_of rfl rfl rfl rfl) (fun _ _ _ _ z => z)) (pa_cons (pv 1) (pa_cons (pv 2) pa_nil))))
      (pss_cons (ps_set (i := 3) nd rfl (Or.inl rfl) (pe_dget (by exact hu) (pe_fldK (K := K) (pv 0) (by rfl) (by rfl)) (pv 1) (fun _ _ => rfl)))
      (pss_cons (ps_if (pt_cmpR op_eq (pe_dget (by exact hu) (pv 3) (pv 2) (fun _ _ => rfl)) pe_int (nomark _)) (pss_one (ps_err D.Refused rfl (takes_of rfl rfl rfl rfl) (hr.mono (by decide)) rfl pe_str)) pss_nil)
      (pss_cons (ps_asg (pe_tup (pa_cons (pe_ifExp (pt_cmpR op_gt (pe_dget (by exact hu) (pv 3) (pv 2) (fun _ _ => rfl)) pe_int (nomark _)) pe_int (pe_un un_neg pe_int)) (pa_cons (pe_dm (pv 0) D.value (hr.mono (by decide)) passL (pa_cons (pv 1) pa_nil)) pa_nil))) (pg_tupK (K := K) (n := 2) rfl (pgs_cons (pg_name (i := 4) nd rfl (Or.inr rfl)) (pgs_cons (pg_name (i := 5) nd rfl (Or.inl rfl)) pgs_nil)) (by rfl)))
      (pss_cons (ps_set (i := 6) nd rfl (Or.inl rfl) pe_dnewK)
      (pss_cons (ps_lock (ps_for (passes_of rfl) rfl (pi_items (pe_fldK (K := K) (pv 0) (by rfl) (by rfl))) (pg_tupK (K := K) (n := 2) rfl (pgs_cons (pg_name (i := 7) nd rfl (Or.inl rfl)) (pgs_cons (pg_name (i := 8) nd rfl (Or.inl rfl)) pgs_nil)) (by rfl)) (pss_one (ps_if (pt_cmpR op_ne (pv 7) (pv 1) (nomark _)) (pss_one (ps_dput (by exact hu) (pv 6) (pv 7) (pe_dm (pv 0) D.exchanged_row (hr.mono (by decide)) passL (pa_cons (pv 8) (pa_cons (pv 3) (pa_cons (pv 1) (pa_cons (pv 2) pa_nil))))) rfl)) pss_nil))))
      (pss_cons (ps_lock (ps_setDc (i := 9) (own := [("at", 10), ("entry", 11)]) rfl nd rfl rfl (sw_dict rfl rfl rfl (by decide +kernel)) (pi_items (pv 3)) (blkOk_by (N := ["self", "place", "column", "row", "sign", "now", "table", "other", "entries", "solved", "at", "entry"]) (sc := defScope s_Tab_exchange) (by decide +kernel)) (fun _ _ _ _ _ => (pg_tupK (K := K) (n := 2) rfl (pgs_cons (pg_name (i := 10) nd rfl (Or.inl rfl)) (pgs_cons (pg_name (i := 11) nd rfl (Or.inl rfl)) pgs_nil)) (by rfl))) (fun _ _ _ _ _ => (pts_one (pt_cmpR op_ne (pv 10) (pv 2) (nomark _)))) (fun _ _ _ _ _ => (pv 10)) (fun _ _ _ _ _ => (pe_op op_mulW (pe_un un_neg (pv 4)) (pv 11)))))
      (pss_cons (ps_dput (by exact hu) (pv 9) (pv 1) (pe_op op_mulW (pv 4) (pe_fldK (K := K) (pv 0) (by rfl) (by rfl))) rfl)
      (pss_cons (ps_dput (by exact hu) (pv 6) (pv 2) (pv 9) rfl)
      (pss_cons (ps_asg (pe_tup (pa_cons (pv 6) (pa_cons (pe_callB call_abs rfl Z.abs_ (by decide +kernel) (pa_cons (pe_dget (by exact hu) (pv 3) (pv 2) (fun _ _ => rfl)) pa_nil)) pa_nil))) (pg_tupK (K := K) (n := 2) rfl (pgs_cons (pg_fld (pv 0)) (pgs_cons (pg_fld (pv 0)) pgs_nil)) (by rfl)))
      (pss_cons (ps_ddel (pe_fldK (K := K) (pv 0) (by rfl) (by rfl)) (pv 2))
      (pss_one (ps_dput (by exact hu) (pe_fldK (K := K) (pv 0) (by rfl) (by rfl)) (pv 1) (pe_dn D.between_ends (hr.mono (by decide)) rfl passL (pa_cons (pv 5) (pa_cons (pe_ix (r := rIxL K) ix_list (pe_fldK (K := K) (pv 0) (by rfl) (by rfl)) (pv 1) (fun _ _ => rfl)) pa_nil))) rfl))))))))))))), ?_⟩
    refine ⟨_, rfl, L.p, _, _, rfl, t.ins, rfl, v, rfl, x, rfl, L, T, v, tv, x, tx, rfl, t, ov, ox, h1, h2, fun e1 e2 => ?_⟩
    obtain ⟨i, rfl, i0, hi⟩ := inB_isN e1
    obtain ⟨j, rfl, _, hj⟩ := inB_isN e2
    obtain ⟨kh, g3, p3⟩ := t.held
    obtain ⟨kt, g4, p4⟩ := t.table
    obtain ⟨ss, g5, p5s⟩ := t.spans
    obtain ⟨hs, g6, p6s⟩ := t.hist
    obtain ⟨h4, h5⟩ := h3 i j rfl rfl hi hj
    obtain ⟨y, y1, r, rfl, rr, y3⟩ := p4.get hi
    have ins := t.ins
    refine ⟨_, rfl, _, C, _, _, _, rfl, ins, c.cl, c.nT, rfl, _, rfl, L.tb, .ref r, rfl, y1 ▸ DGet.k (k := (.inl i : Key)) g4, ?_⟩
    refine ⟨_, rfl, _, rfl, r, _, rfl, rowK_get hj ▸ DGet.k (k := (.inl j : Key)) y3, rfl, _, rfl, ?_⟩
    refine ite2 (fun e => err_leaf fun d H' => h4 (by simpa using e) d H') (fun e => ?_)
    have nz : T.E i j ≠ 0 := fun z => e (by rw [z]; rfl)
    obtain ⟨q, ee, hq, he, sq, se, h⟩ := h5 nz
    refine ⟨_, rfl, _, rfl, r, _, rfl, rowK_get hj ▸ DGet.k (k := (.inl j : Key)) y3, _, _, rfl, rfl, _, rfl, ?_⟩
    have cl20 := ok.cl
    have bl20 := ok.bl
    have hji : j ≠ i := fun z => ok.dj i hi (z ▸ hj)
    have lt20 : ∀ {n : Nat}, n ≤ 20 → n < sizeLine := fun h => Nat.lt_of_le_of_lt h (by decide)
    have sp0 : i.toNat < T.spans.length := (List.getElem?_eq_some_iff.mp he).1
    have i0' : 0 ≤ i ∧ i < T.spans.length := by omega
    have okn : okN (.int i) ((T.spans.length : Int) - 1) = true := decide_eq_true (by omega)
    by_cases h0 : 0 < T.E i j
    · rw [decide_eq_true h0]
      have hsg : M.sg (T.E i j) = 1 := M.sg_pos h0
      refine iteT ?_
      refine ⟨_, rfl, L.p, _, _, rfl, ins, rfl, _, rfl, L, T, _, "int", rfl, t, ok, .int _, (fun e => Bool.noConfusion (e.symm.trans okn)), fun _ => ⟨i, q, rfl, hq, fun nv H1 s1 hnv => ⟨(by show 2 ≤ sizeLine; decide), fun tp htp => ⟨tp, _, rfl, SqT.of upd_same, rfl, _, _, rfl, _, _, rfl, rfl, fun td htd => ?_⟩⟩⟩⟩
      obtain ⟨Hb, sb, nvb, hHb⟩ : ∃ Hb, Same H Hb ∧ FrA K Hb nv q ∧ upd H1 tp (.tup [.int (1), .ref nv]) = Hb := ⟨_, s1.trans (same_new htp), hnv.same (same_new htp), rfl⟩
      rw [hHb] at htd ⊢
      clear hHb
      have htdH : H td = none := sb.free htd
      refine for_items (K := K) (d := L.tb) (fun od n σ H' => ∃ x y, σ = [some (.ref L.p), some (.int i), some (.int j), some (.ref r), some (.int (M.sg (T.E i j))), some (.ref nv), some (.ref td), x, y, none, none, none] ∧ Same (upd Hb L.tb (.frz od (.dK kt))) H' ∧
        ∃ kvs', H' td = some (.dK kvs') ∧ PD (RowR H' (fun a => H a = none ∧ a ≠ td) (exCols T.cols i j)) kvs' ((T.basis.take n).filter fun o => decide (o ≠ i)) (fun o => exRow (T.E o) (T.E i) i j T.unit)) (by rw [upd_ne (ne_of_none (sb _ _ g4) htd)]; exact sb _ _ g4) ?_ ?_ ?_ ?_ ?_
      · intro od R q
        have hp : upd (upd Hb td (.dK [])) L.tb (.frz od (.dK kt)) L.p = some (.ins C L.dx (flds T.many L.sp L.he L.tb T.unit L.hi)) := by
          rw [upd_ne (ne_of ins g4 (by intro z; cases z)), upd_ne (ne_of_none (sb _ _ ins) htd)]
          exact sb _ _ ins
        exact ⟨_, rfl, _, C, _, _, _, rfl, hp, c.cl, c.nT, rfl, q⟩
      · intro od
        have ntd := (ne_of_none (sb _ _ g4) htd).symm
        exact ⟨none, none, by rw [hsg]; rfl, same_lock htd ntd, [], by rw [upd_ne ntd, upd_same], by rw [List.take_zero]; exact .nil⟩
      · rintro od n σ H' ⟨x, y, rfl, s2, _⟩
        exact s2 L.tb _ upd_same
      · rintro od n k' v' σ H' Tp D' hkt ⟨x, y, rfl, s2, kvs', e2, p2⟩ hT hD'
        obtain ⟨o, ho, e3, oa, rfl, orow, oK⟩ : ∃ o, T.basis[n]? = some o ∧ k' = .inl o ∧ ∃ oa, v' = .ref oa ∧ L.rows oa ∧ H oa = some (.dK (rowK T.cols (T.E o))) := by
          have hlen := p4.length
          have hn : n < T.basis.length := by rw [← hlen]; exact (List.getElem?_eq_some_iff.mp hkt).1
          obtain ⟨v, ev, a, e, ra, aK⟩ := p4.nth (List.getElem?_eq_getElem hn)
          rw [ev] at hkt
          cases hkt
          exact ⟨_, List.getElem?_eq_getElem hn, rfl, a, e, ra, aK⟩
        subst e3
        have hom : o ∈ T.basis := List.mem_of_getElem? ho
        have s3 : Same H' (upd H' Tp (.tup [kV (.inl o), .ref oa])) := same_new hT
        have lk : ∀ {b : Addr} {u : HO}, H b = some u → b ≠ L.tb → (upd H' Tp (.tup [kV (.inl o), .ref oa])) b = some u := fun {b u} e n => s3 _ _ (s2 _ _ (by rw [upd_ne n]; exact sb _ _ e))
        have hp3 := lk ins (ne_of ins g4 (by intro z; cases z))
        refine ⟨_, rfl, _, rfl, rfl, _, rfl, ?_⟩
        by_cases e0 : o = i
        · rw [show (!decide (kV (Sum.inl o : Key) = V.int i)) = false from by rw [e0]; show (!decide (V.int i = V.int i)) = false; simp]
          refine iteF ?_
          show D'.nx _ _
          rw [hD']
          subst e0
          refine ⟨_, _, rfl, s2.trans s3, kvs', s3 _ _ e2, ?_⟩
          rw [take_snoc ho, List.filter_append, show ([o].filter fun j => decide (j ≠ o)) = [] from by simp, List.append_nil]
          exact rows_same s3 p2
        · rw [show (!decide (kV (Sum.inl o : Key) = V.int i)) = true from by
            have : ¬ (kV (Sum.inl o : Key) = V.int i) := fun z => e0 (V.int.inj z)
            rw [decide_eq_false this]
            rfl]
          have R1 : RowsIn (upd H' Tp (.tup [kV (.inl o), .ref oa])) oa r T.cols (T.E o) (T.E i) i j T.unit := ⟨lk oK (fun z => t.n4 (z ▸ orow)), lk y3 (fun z => t.n4 (z ▸ rr)), ok.dj i hi, hj, ok.nc, cl20, ok.eb o hom, ok.eb i hi, ok.pos, ok.ub, nz⟩
          refine iteT ⟨_, rfl, L.p, _, _, rfl, hp3, rfl, _, rfl, _, rfl, _, rfl, _, rfl, L.p, oa, r, i, j, L.dx, _, _, _, _, _, _, T.cols, T.E o, T.E i, rfl, hp3, R1, fun na H4 s4 nna hna => ?_⟩
          have ntd : na ≠ td := (ne_of_none (s3 _ _ e2) nna).symm
          have hnaH : H na = none := by
            cases e : H na with
            | none => rfl
            | some u =>
              by_cases ez : na = L.tb
              · have z := s3 _ _ (s2 L.tb _ upd_same)
                rw [← ez, nna] at z
                cases z
              · have z := lk e ez
                rw [nna] at z
                cases z
          have e5 := s4 _ _ (s3 _ _ e2)
          refine ⟨_, rfl, _, rfl, td, _, rfl, DPut.k (k := (.inl o : Key)) e5 ?_, ?_⟩
          · rw [p2.length]
            exact lt20 (Nat.le_trans (fil_len ..) bl20)
          · show D'.nx _ _
            rw [hD']
            have htb : td ≠ L.tb := (ne_of_none (sb _ _ g4) htd).symm
            have s5 : Same (upd Hb L.tb (.frz od (.dK kt))) (upd H4 td (.dK (putK kvs' (.inl o) (.ref na)))) := same_put ((s2.trans s3).trans s4) (by rw [upd_ne htb]; exact htd)
            refine ⟨_, _, rfl, s5, _, upd_same, ?_⟩
            rw [take_snoc ho, List.filter_append, show ([o].filter fun j => decide (j ≠ i)) = [o] from by simp [e0]]
            have p5' : PD (RowR (upd H4 td (.dK (putK kvs' (.inl o) (.ref na)))) (fun a => H a = none ∧ a ≠ td) (exCols T.cols i j)) kvs' ((T.basis.take n).filter fun o => decide (o ≠ i)) (fun o => exRow (T.E o) (T.E i) i j T.unit) := p2.imp fun v x hh => by
              obtain ⟨a, ea, ⟨h1, h2⟩, h3⟩ := hh
              exact ⟨a, ea, ⟨h1, h2⟩, by rw [upd_ne h2]; exact s4 _ _ (s3 _ _ h3)⟩
            refine (p5'.new (k := o) (v := .ref na) (x := exRow (T.E o) (T.E i) i j T.unit) (fun hm => nodup_take ok.nb ho (List.mem_filter.mp hm).1) ⟨na, rfl, ⟨hnaH, ntd⟩, by rw [upd_ne ntd]; exact hna⟩).congr fun k _ => ?_
            by_cases e : k = o
            · rw [e]; simp
            · simp [e]
      · rintro od σ H' ⟨x, y, rfl, s2, kvs', e2, p2⟩
        rw [p4.length, take_all] at p2
        have htb : td ≠ L.tb := (ne_of_none (sb _ _ g4) htd).symm
        obtain ⟨H4, hH4⟩ : ∃ H4, H4 = upd H' L.tb (.dK kt) := ⟨_, rfl⟩
        have s4 : Same Hb H4 := by rw [hH4]; exact same_upd2 (sb _ _ g4) s2
        have e4 : H4 td = some (.dK kvs') := by rw [hH4, upd_ne htb]; exact e2
        have p5 : PD (RowR H4 (fun a => H a = none ∧ a ≠ td) (exCols T.cols i j)) kvs' (T.basis.filter fun o => decide (o ≠ i)) (fun o => exRow (T.E o) (T.E i) i j T.unit) := p2.imp fun v x hh => by
          obtain ⟨a, ea, ⟨q1, q2⟩, q3⟩ := hh
          exact ⟨a, ea, ⟨q1, q2⟩, by rw [hH4, upd_ne (fun z => by rw [z, g4] at q1; cases q1)]; exact q3⟩
        rw [← hH4]
        clear hH4
        refine dc_items (K := K) (d := r) (fun od Dd n H' => Same (upd H4 r (.frz od (.dK (rowK T.cols (T.E i))))) H' ∧ H' Dd = some (.dK (rowK ((T.cols.take n).filter fun c => decide (c ≠ j)) (M.exQ T.E T.unit i j)))) (s4 _ _ (sb _ _ y3)) ?_ ?_ ?_ ?_ ?_
        · exact fun od R q => ⟨_, rfl, q⟩
        · exact fun od Dd hDd => ⟨same_new (by rw [upd_ne (ne_of_none (s4 _ _ (sb _ _ y3)) hDd).symm]; exact hDd), by rw [upd_same, List.take_zero]; rfl⟩
        · exact fun od Dd n H' hh => hh.1 r _ upd_same
        · rintro od Dd n k v H2 Tp hDd hkv ⟨s5, e5⟩ hT
          obtain ⟨cc, hcc, rfl, rfl⟩ := row_nth hkv
          have hcm : cc ∈ T.cols := List.mem_of_getElem? hcc
          have s6 : Same H2 (upd H2 Tp (.tup [kV (.inl cc), .int (T.E i cc)])) := same_new hT
          refine ⟨rfl, _, rfl, _, rfl, rfl, _, rfl, ?_⟩
          have cci : cc ≠ i := fun z => ok.dj i hi (z ▸ hcm)
          by_cases e0 : cc = j
          · rw [show (!decide (kV (Sum.inl cc : Key) = V.int j)) = false from by rw [e0]; show (!decide (V.int j = V.int j)) = false; simp]
            refine iteF ⟨s5.trans s6, ?_⟩
            subst e0
            rw [take_snoc hcc, List.filter_append, show ([cc].filter fun c => decide (c ≠ cc)) = [] from by simp, List.append_nil]
            exact s6 _ _ e5
          · rw [show (!decide (kV (Sum.inl cc : Key) = V.int j)) = true from by
              have : ¬ (kV (Sum.inl cc : Key) = V.int j) := fun z => e0 (V.int.inj z)
              rw [decide_eq_false this]
              rfl]
            have bm : (-M.sg (T.E i j)).natAbs < 2 ^ 1500 := by rw [Int.natAbs_neg]; exact b_sg _
            refine iteT ⟨_, rfl, _, rfl, _, rfl, _, rfl, _, _, rfl, rfl, sm_mul bm (b1500 (ok.eb i hi cc hcm)), _, .inl cc, rfl, s6 _ _ e5, ?_, ?_, ?_⟩
            · rw [rowK_length]
              exact lt20 (Nat.le_trans (fil_len ..) cl20)
            · exact same_put (s5.trans s6) (by rw [upd_ne (ne_of_none (s4 _ _ (sb _ _ y3)) hDd).symm]; exact hDd)
            · have ev : M.exQ T.E T.unit i j cc = -M.sg (T.E i j) * T.E i cc := if_neg cci
              rw [upd_same, take_snoc hcc, List.filter_append, show ([cc].filter fun c => decide (c ≠ j)) = [cc] from by simp [e0], ← row_new (fun hm => nodup_take ok.nc hcc (List.mem_filter.mp hm).1), ev]
        · rintro od Dd H5' hDd ⟨s5', e5'⟩
          rw [rowK_length, take_all] at e5'
          have nDr := (ne_of_none (s4 _ _ (sb _ _ y3)) hDd).symm
          obtain ⟨H5, hH5⟩ : ∃ H5, H5 = upd H5' r (.dK (rowK T.cols (T.E i))) := ⟨_, rfl⟩
          have s5 : Same H4 H5 := by rw [hH5]; exact same_upd2 (s4 _ _ (sb _ _ y3)) s5'
          have e5 : H5 Dd = some (.dK (rowK (T.cols.filter fun c => decide (c ≠ j)) (M.exQ T.E T.unit i j))) := by rw [hH5, upd_ne nDr]; exact e5'
          rw [← hH5]
          clear hH5 s5' e5'
          have sHb : Same Hb H5 := s4.trans s5
          have hDb : Hb Dd = none := s4.free hDd
          have hDH : H Dd = none := sb.free hDb
          have e6 := s5 _ _ e4
          have nDt : Dd ≠ td := (ne_of_none e4 hDd).symm
          have ins5 := sHb _ _ (sb _ _ ins)
          have p6 := rows_same s5 p5
          have ev : M.exQ T.E T.unit i j i = M.sg (T.E i j) * T.unit := if_pos rfl
          refine ⟨_, rfl, _, rfl, _, C, _, _, _, rfl, ins5, c.cl, c.nU, rfl, _, _, rfl, rfl, sm_mul (b_sg _) (b1500 ok.ub), _, rfl, _, rfl, Dd, _, rfl, DPut.k (k := (.inl i : Key)) e5 (by rw [rowK_length]; exact lt20 (Nat.le_trans (List.length_filter_le ..) cl20)), ?_⟩
          have r6 : putK (rowK (T.cols.filter fun c => decide (c ≠ j)) (M.exQ T.E T.unit i j)) (.inl i : Key) (.int (M.sg (T.E i j) * T.unit)) = rowK (exCols T.cols i j) (M.exQ T.E T.unit i j) := by
            rw [← ev, row_new (fun hm => ok.dj i hi (List.mem_filter.mp hm).1)]
            rfl
          refine ⟨_, rfl, _, rfl, _, rfl, td, _, rfl, DPut.k (k := (.inl j : Key)) (show (upd H5 Dd _) td = some (.dK kvs') from by rw [upd_ne nDt.symm]; exact e6) (by rw [p5.length]; exact lt20 (Nat.le_trans (List.length_filter_le ..) bl20)), ?_⟩
          show tSeq _ _ _ _ _
          rw [r6]
          have nDl : ∀ {b : Addr} {u : HO}, Hb b = some u → b ≠ Dd := fun e => ne_of_none e hDb
          have ntl : ∀ {b : Addr} {u : HO}, Hb b = some u → b ≠ td := fun e => ne_of_none e htd
          obtain ⟨H7, ⟨S7, eT, eD, p7⟩, hH7⟩ : ∃ H7, (Same Hb H7 ∧ H7 td = some (.dK (putK kvs' (.inl j : Key) (.ref Dd))) ∧ H7 Dd = some (.dK (rowK (exCols T.cols i j) (M.exQ T.E T.unit i j))) ∧ PD (RowR H7 (fun a => H a = none ∧ a ≠ td) (exCols T.cols i j)) kvs' (T.basis.filter fun o => decide (o ≠ i)) (fun o => exRow (T.E o) (T.E i) i j T.unit)) ∧
              upd (upd H5 Dd (.dK (rowK (exCols T.cols i j) (M.exQ T.E T.unit i j)))) td (.dK (putK kvs' (.inl j : Key) (.ref Dd))) = H7 := ⟨_, ⟨same_put (same_put sHb hDb) htd, upd_same, by rw [upd_ne nDt, upd_same], p5.imp fun v x hh => by
                obtain ⟨a, ea, ⟨q1, q2⟩, q3⟩ := hh
                exact ⟨a, ea, ⟨q1, q2⟩, by rw [upd_ne q2, upd_ne (ne_of_none q3 hDd)]; exact s5 _ _ q3⟩⟩, rfl⟩
          rw [hH7]
          clear hH7
          have S7H : Same H H7 := sb.trans S7
          have ins7 := S7H _ _ ins
          have r7 := S7H _ _ y3
          refine ⟨_, rfl, _, rfl, _, rfl, r, _, rfl, rowK_get hj ▸ DGet.k (k := (.inl j : Key)) r7, _, rfl, (by show 2 ≤ sizeLine; decide), fun tp2 htp2 => ⟨tp2, _, rfl, SqT.of upd_same, rfl, _, _, rfl, ?_⟩⟩
          obtain ⟨H8, S8, hH8⟩ : ∃ H8, Same H7 H8 ∧ upd H7 tp2 (.tup [.ref td, .int (if T.E i j < 0 then -T.E i j else T.E i j)]) = H8 := ⟨_, same_new htp2, rfl⟩
          rw [hH8, abs_nn]
          clear hH8
          have S8H : Same H H8 := S7H.trans S8
          have ins8 := S8H _ _ ins
          refine ⟨_, rfl, L.p, C, L.dx, _, rfl, ins8, c.cl, c.nT, (by show 6 < 1000; decide), _, _, rfl, _, rfl, L.p, C, L.dx, _, rfl, upd_same, c.cl, c.nU, (by show 6 < 1000; decide), rfl, ?_⟩
          have eF : putF ("unit" : Str) (.int ((T.E i j).natAbs : Int)) (putF ("table" : Str) (.ref td) (flds T.many L.sp L.he L.tb T.unit L.hi)) = flds T.many L.sp L.he td ((T.E i j).natAbs : Int) L.hi := rfl
          rw [eF]
          have nhp : L.he ≠ L.p := ne_of g3 ins (by intro z; cases z)
          have nsp : L.sp ≠ L.p := ne_of g5 ins (by intro z; cases z)
          have nsh : L.sp ≠ L.he := ne_of g5 g3 (by intro z; cases z)
          have nihp : L.hi ≠ L.p := ne_of g6 ins (by intro z; cases z)
          have nihh : L.hi ≠ L.he := ne_of g6 g3 (by intro z; cases z)
          have ntp : td ≠ L.p := (ne_of_none (sb _ _ ins) htd).symm
          have nth : td ≠ L.he := (ne_of_none (sb _ _ g3) htd).symm
          obtain ⟨H9, hH9⟩ : ∃ H9, H9 = upd (upd H8 L.p (.ins C L.dx (putF ("table" : Str) (.ref td) (flds T.many L.sp L.he L.tb T.unit L.hi)))) L.p (.ins C L.dx (flds T.many L.sp L.he td ((T.E i j).natAbs : Int) L.hi)) := ⟨_, rfl⟩
          rw [← hH9]
          have o9 : ∀ b, b ≠ L.p → H9 b = H8 b := fun b n => by rw [hH9, upd_ne n, upd_ne n]
          have ins9 : H9 L.p = some (.ins C L.dx (flds T.many L.sp L.he td ((T.E i j).natAbs : Int) L.hi)) := by rw [hH9, upd_same]
          clear hH9
          have he9 : H9 L.he = some (.dK kh) := by rw [o9 _ nhp]; exact S8H _ _ g3
          refine ⟨_, rfl, _, C, _, _, _, rfl, ins9, c.cl, c.nH, rfl, _, rfl, L.he, kh, .inl j, rfl, he9, rfl, (by rw [p3.isSome j, decide_eq_true hj]), ?_⟩
          obtain ⟨H10, hH10⟩ : ∃ H10, H10 = upd H9 L.he (.dK (dropK kh (.inl j : Key))) := ⟨_, rfl⟩
          rw [← hH10]
          have o10 : ∀ b, b ≠ L.p → b ≠ L.he → H10 b = H8 b := fun b n1 n2 => by rw [hH10, upd_ne n2, o9 b n1]
          have ins10 : H10 L.p = some (.ins C L.dx (flds T.many L.sp L.he td ((T.E i j).natAbs : Int) L.hi)) := by rw [hH10, upd_ne nhp.symm]; exact ins9
          have he10 : H10 L.he = some (.dK (dropK kh (.inl j : Key))) := by rw [hH10, upd_same]
          clear hH10
          have sp10 : H10 L.sp = some (.lst (ss.map V.ref)) := by rw [o10 _ nsp nsh]; exact S8H _ _ g5
          have kf : Keep [L.p, L.he] H8 H10 := fun b o e nb => by
            rw [o10 b (fun z => nb (z ▸ List.mem_cons_self)) (fun z => nb (z ▸ List.mem_cons_of_mem _ List.mem_cons_self))]
            exact e
          have wf : ∀ b ∈ [L.p, L.he], Wr H8 b := fun b hb => by
            rcases List.mem_cons.mp hb with rfl | hb
            · exact .inl ⟨_, _, _, ins8⟩
            · rw [List.mem_singleton.mp hb]
              exact .inr (.inr ⟨_, S8H _ _ g3⟩)
          have nv10 : FrA K H10 nv q := keep_tup kf wf (nvb.same (S7.trans S8))
          obtain ⟨sa, hsa, esa⟩ := nth_ends p5s he
          have es10 : EndsA K H10 sa ee := keep_ends kf wf (esa.same S8H)
          refine ⟨_, rfl, _, rfl, _, C, _, _, _, rfl, ins10, c.cl, c.nS, rfl, _, rfl, L.sp, _, _, .ref sa, rfl, rfl, SqL.of sp10, ?_, nv, sa, q, ee, rfl, nv10, es10, sq, se.1, se.2, fun res hres => ⟨_, rfl, _, C, _, _, _, rfl, ins10, c.cl, c.nH, rfl, _, rfl, L.he, _, rfl, DPut.k (k := (.inl i : Key)) he10 ?_, ?_⟩⟩
          · rw [show i = ((i.toNat : Nat) : Int) from by omega]
            refine atI_nat ?_
            rw [List.getElem?_map, hsa]
            rfl
          · rw [(p3.drop j).length]
            exact lt20 (Nat.le_trans (List.length_filter_le ..) cl20)
          · show Q V.non _
            have hrd : ∀ b ∈ [L.he], Wr H10 b := fun b hb => by
              rw [List.mem_singleton.mp hb]
              exact .inr (.inr ⟨_, he10⟩)
            have kl : ∀ u, Keep [L.he] H10 (upd H10 L.he u) := fun u b o e nb => by
              have n : b ≠ L.he := fun z => nb (by rw [z]; exact List.mem_cons_self)
              rw [upd_ne n]
              exact e
            have nrow : ∀ (R : Prop) (a : Addr), H a = none ∧ a ≠ td → a ≠ L.p ∧ a ≠ L.he := fun _ a ha => ⟨(ne_of_none ins ha.1).symm, (ne_of_none g3 ha.1).symm⟩
            refine h ⟨L.p, L.dx, L.sp, L.he, td, L.hi, fun a => H a = none ∧ a ≠ td⟩ _ (fun b o e nb => ?_) ⟨rfl, fun b hb => ?_, fun b hb => .inr hb.1⟩ ⟨?_, ⟨ss, ?_, ?_⟩, ⟨_, upd_same, ?_⟩, ⟨putK kvs' (.inl j : Key) (.ref Dd), ?_, ?_⟩, ⟨hs, ?_, p6s⟩, t.n1, nth.symm, ?_, fun hh => hh.2 rfl⟩
            · have n1 : b ≠ L.p := fun z => nb (by rw [z]; simp [Lay.fp])
              have n2 : b ≠ L.he := fun z => nb (by rw [z]; simp [Lay.fp])
              rw [upd_ne n2, o10 b n1 n2]
              exact S8H _ _ e
            · simp only [Lay.fp, List.mem_cons, List.not_mem_nil, or_false] at hb ⊢
              rcases hb with rfl | rfl | rfl | rfl | rfl
              · simp
              · simp
              · simp
              · exact .inr htdH
              · simp
            · rw [upd_ne nhp.symm]
              exact ins10
            · rw [upd_ne nsh]
              exact sp10
            · exact keep_spans (kl _) hrd (keep_spans kf wf (spans_same S8H p5s))
            · have := keep_held (kl (.dK (putK (dropK kh (.inl j : Key)) (.inl i) (.ref res)))) hrd (keep_held kf wf (held_same S8H (p3.drop j)))
              exact this.new (fun hm => ok.dj i hi (List.mem_filter.mp hm).1) ⟨res, rfl, keep_tup (kl _) hrd hres⟩
            · rw [upd_ne nth, o10 _ ntp nth]
              exact S8 _ _ eT
            · have p8 : PD (RowR (upd H10 L.he (.dK (putK (dropK kh (.inl j : Key)) (.inl i) (.ref res)))) (fun a => H a = none ∧ a ≠ td) (exCols T.cols i j)) kvs' (T.basis.filter fun o => decide (o ≠ i)) (fun o => exRow (T.E o) (T.E i) i j T.unit) := p7.imp fun v x hh => by
                obtain ⟨a, ea, hn, q3⟩ := hh
                obtain ⟨m1, m2⟩ := nrow True a hn
                exact ⟨a, ea, hn, by rw [upd_ne m2, o10 _ m1 m2]; exact S8 _ _ q3⟩
              have nD : H Dd = none ∧ Dd ≠ td := ⟨hDH, nDt⟩
              obtain ⟨m1, m2⟩ := nrow True Dd nD
              refine (p8.new (k := j) (v := .ref Dd) (x := M.exQ T.E T.unit i j) (fun hm => ok.dj j (List.mem_filter.mp hm).1 hj) ⟨Dd, rfl, nD, by rw [upd_ne m2, o10 _ m1 m2]; exact S8 _ _ eD⟩).congr fun o ho => ?_
              by_cases e : o = j
              · subst e
                rw [if_pos rfl]
                funext cc
                exact (if_pos rfl).symm
              · rw [if_neg e]
                funext cc
                exact (if_neg e).symm
            · rw [upd_ne nihh, o10 _ nihp nihh]
              exact S8H _ _ g6
            · exact fun hh => by
                have z : H L.he = none := hh.1
                rw [g3] at z
                cases z
    · rw [decide_eq_false h0]
      have hsg : M.sg (T.E i j) = -1 := M.sg_neg (by omega)
      refine iteF ⟨_, rfl, ?_⟩
      refine ⟨_, rfl, L.p, _, _, rfl, ins, rfl, _, rfl, L, T, _, "int", rfl, t, ok, .int _, (fun e => Bool.noConfusion (e.symm.trans okn)), fun _ => ⟨i, q, rfl, hq, fun nv H1 s1 hnv => ⟨(by show 2 ≤ sizeLine; decide), fun tp htp => ⟨tp, _, rfl, SqT.of upd_same, rfl, _, _, rfl, _, _, rfl, rfl, fun td htd => ?_⟩⟩⟩⟩
      obtain ⟨Hb, sb, nvb, hHb⟩ : ∃ Hb, Same H Hb ∧ FrA K Hb nv q ∧ upd H1 tp (.tup [.int (-1), .ref nv]) = Hb := ⟨_, s1.trans (same_new htp), hnv.same (same_new htp), rfl⟩
      rw [hHb] at htd ⊢
      clear hHb
      have htdH : H td = none := sb.free htd
      refine for_items (K := K) (d := L.tb) (fun od n σ H' => ∃ x y, σ = [some (.ref L.p), some (.int i), some (.int j), some (.ref r), some (.int (M.sg (T.E i j))), some (.ref nv), some (.ref td), x, y, none, none, none] ∧ Same (upd Hb L.tb (.frz od (.dK kt))) H' ∧
        ∃ kvs', H' td = some (.dK kvs') ∧ PD (RowR H' (fun a => H a = none ∧ a ≠ td) (exCols T.cols i j)) kvs' ((T.basis.take n).filter fun o => decide (o ≠ i)) (fun o => exRow (T.E o) (T.E i) i j T.unit)) (by rw [upd_ne (ne_of_none (sb _ _ g4) htd)]; exact sb _ _ g4) ?_ ?_ ?_ ?_ ?_
      · intro od R q
        have hp : upd (upd Hb td (.dK [])) L.tb (.frz od (.dK kt)) L.p = some (.ins C L.dx (flds T.many L.sp L.he L.tb T.unit L.hi)) := by
          rw [upd_ne (ne_of ins g4 (by intro z; cases z)), upd_ne (ne_of_none (sb _ _ ins) htd)]
          exact sb _ _ ins
        exact ⟨_, rfl, _, C, _, _, _, rfl, hp, c.cl, c.nT, rfl, q⟩
      · intro od
        have ntd := (ne_of_none (sb _ _ g4) htd).symm
        exact ⟨none, none, by rw [hsg]; rfl, same_lock htd ntd, [], by rw [upd_ne ntd, upd_same], by rw [List.take_zero]; exact .nil⟩
      · rintro od n σ H' ⟨x, y, rfl, s2, _⟩
        exact s2 L.tb _ upd_same
      · rintro od n k' v' σ H' Tp D' hkt ⟨x, y, rfl, s2, kvs', e2, p2⟩ hT hD'
        obtain ⟨o, ho, e3, oa, rfl, orow, oK⟩ : ∃ o, T.basis[n]? = some o ∧ k' = .inl o ∧ ∃ oa, v' = .ref oa ∧ L.rows oa ∧ H oa = some (.dK (rowK T.cols (T.E o))) := by
          have hlen := p4.length
          have hn : n < T.basis.length := by rw [← hlen]; exact (List.getElem?_eq_some_iff.mp hkt).1
          obtain ⟨v, ev, a, e, ra, aK⟩ := p4.nth (List.getElem?_eq_getElem hn)
          rw [ev] at hkt
          cases hkt
          exact ⟨_, List.getElem?_eq_getElem hn, rfl, a, e, ra, aK⟩
        subst e3
        have hom : o ∈ T.basis := List.mem_of_getElem? ho
        have s3 : Same H' (upd H' Tp (.tup [kV (.inl o), .ref oa])) := same_new hT
        have lk : ∀ {b : Addr} {u : HO}, H b = some u → b ≠ L.tb → (upd H' Tp (.tup [kV (.inl o), .ref oa])) b = some u := fun {b u} e n => s3 _ _ (s2 _ _ (by rw [upd_ne n]; exact sb _ _ e))
        have hp3 := lk ins (ne_of ins g4 (by intro z; cases z))
        refine ⟨_, rfl, _, rfl, rfl, _, rfl, ?_⟩
        by_cases e0 : o = i
        · rw [show (!decide (kV (Sum.inl o : Key) = V.int i)) = false from by rw [e0]; show (!decide (V.int i = V.int i)) = false; simp]
          refine iteF ?_
          show D'.nx _ _
          rw [hD']
          subst e0
          refine ⟨_, _, rfl, s2.trans s3, kvs', s3 _ _ e2, ?_⟩
          rw [take_snoc ho, List.filter_append, show ([o].filter fun j => decide (j ≠ o)) = [] from by simp, List.append_nil]
          exact rows_same s3 p2
        · rw [show (!decide (kV (Sum.inl o : Key) = V.int i)) = true from by
            have : ¬ (kV (Sum.inl o : Key) = V.int i) := fun z => e0 (V.int.inj z)
            rw [decide_eq_false this]
            rfl]
          have R1 : RowsIn (upd H' Tp (.tup [kV (.inl o), .ref oa])) oa r T.cols (T.E o) (T.E i) i j T.unit := ⟨lk oK (fun z => t.n4 (z ▸ orow)), lk y3 (fun z => t.n4 (z ▸ rr)), ok.dj i hi, hj, ok.nc, cl20, ok.eb o hom, ok.eb i hi, ok.pos, ok.ub, nz⟩
          refine iteT ⟨_, rfl, L.p, _, _, rfl, hp3, rfl, _, rfl, _, rfl, _, rfl, _, rfl, L.p, oa, r, i, j, L.dx, _, _, _, _, _, _, T.cols, T.E o, T.E i, rfl, hp3, R1, fun na H4 s4 nna hna => ?_⟩
          have ntd : na ≠ td := (ne_of_none (s3 _ _ e2) nna).symm
          have hnaH : H na = none := by
            cases e : H na with
            | none => rfl
            | some u =>
              by_cases ez : na = L.tb
              · have z := s3 _ _ (s2 L.tb _ upd_same)
                rw [← ez, nna] at z
                cases z
              · have z := lk e ez
                rw [nna] at z
                cases z
          have e5 := s4 _ _ (s3 _ _ e2)
          refine ⟨_, rfl, _, rfl, td, _, rfl, DPut.k (k := (.inl o : Key)) e5 ?_, ?_⟩
          · rw [p2.length]
            exact lt20 (Nat.le_trans (fil_len ..) bl20)
          · show D'.nx _ _
            rw [hD']
            have htb : td ≠ L.tb := (ne_of_none (sb _ _ g4) htd).symm
            have s5 : Same (upd Hb L.tb (.frz od (.dK kt))) (upd H4 td (.dK (putK kvs' (.inl o) (.ref na)))) := same_put ((s2.trans s3).trans s4) (by rw [upd_ne htb]; exact htd)
            refine ⟨_, _, rfl, s5, _, upd_same, ?_⟩
            rw [take_snoc ho, List.filter_append, show ([o].filter fun j => decide (j ≠ i)) = [o] from by simp [e0]]
            have p5' : PD (RowR (upd H4 td (.dK (putK kvs' (.inl o) (.ref na)))) (fun a => H a = none ∧ a ≠ td) (exCols T.cols i j)) kvs' ((T.basis.take n).filter fun o => decide (o ≠ i)) (fun o => exRow (T.E o) (T.E i) i j T.unit) := p2.imp fun v x hh => by
              obtain ⟨a, ea, ⟨h1, h2⟩, h3⟩ := hh
              exact ⟨a, ea, ⟨h1, h2⟩, by rw [upd_ne h2]; exact s4 _ _ (s3 _ _ h3)⟩
            refine (p5'.new (k := o) (v := .ref na) (x := exRow (T.E o) (T.E i) i j T.unit) (fun hm => nodup_take ok.nb ho (List.mem_filter.mp hm).1) ⟨na, rfl, ⟨hnaH, ntd⟩, by rw [upd_ne ntd]; exact hna⟩).congr fun k _ => ?_
            by_cases e : k = o
            · rw [e]; simp
            · simp [e]
      · rintro od σ H' ⟨x, y, rfl, s2, kvs', e2, p2⟩
        rw [p4.length, take_all] at p2
        have htb : td ≠ L.tb := (ne_of_none (sb _ _ g4) htd).symm
        obtain ⟨H4, hH4⟩ : ∃ H4, H4 = upd H' L.tb (.dK kt) := ⟨_, rfl⟩
        have s4 : Same Hb H4 := by rw [hH4]; exact same_upd2 (sb _ _ g4) s2
        have e4 : H4 td = some (.dK kvs') := by rw [hH4, upd_ne htb]; exact e2
        have p5 : PD (RowR H4 (fun a => H a = none ∧ a ≠ td) (exCols T.cols i j)) kvs' (T.basis.filter fun o => decide (o ≠ i)) (fun o => exRow (T.E o) (T.E i) i j T.unit) := p2.imp fun v x hh => by
          obtain ⟨a, ea, ⟨q1, q2⟩, q3⟩ := hh
          exact ⟨a, ea, ⟨q1, q2⟩, by rw [hH4, upd_ne (fun z => by rw [z, g4] at q1; cases q1)]; exact q3⟩
        rw [← hH4]
        clear hH4
        refine dc_items (K := K) (d := r) (fun od Dd n H' => Same (upd H4 r (.frz od (.dK (rowK T.cols (T.E i))))) H' ∧ H' Dd = some (.dK (rowK ((T.cols.take n).filter fun c => decide (c ≠ j)) (M.exQ T.E T.unit i j)))) (s4 _ _ (sb _ _ y3)) ?_ ?_ ?_ ?_ ?_
        · exact fun od R q => ⟨_, rfl, q⟩
        · exact fun od Dd hDd => ⟨same_new (by rw [upd_ne (ne_of_none (s4 _ _ (sb _ _ y3)) hDd).symm]; exact hDd), by rw [upd_same, List.take_zero]; rfl⟩
        · exact fun od Dd n H' hh => hh.1 r _ upd_same
        · rintro od Dd n k v H2 Tp hDd hkv ⟨s5, e5⟩ hT
          obtain ⟨cc, hcc, rfl, rfl⟩ := row_nth hkv
          have hcm : cc ∈ T.cols := List.mem_of_getElem? hcc
          have s6 : Same H2 (upd H2 Tp (.tup [kV (.inl cc), .int (T.E i cc)])) := same_new hT
          refine ⟨rfl, _, rfl, _, rfl, rfl, _, rfl, ?_⟩
          have cci : cc ≠ i := fun z => ok.dj i hi (z ▸ hcm)
          by_cases e0 : cc = j
          · rw [show (!decide (kV (Sum.inl cc : Key) = V.int j)) = false from by rw [e0]; show (!decide (V.int j = V.int j)) = false; simp]
            refine iteF ⟨s5.trans s6, ?_⟩
            subst e0
            rw [take_snoc hcc, List.filter_append, show ([cc].filter fun c => decide (c ≠ cc)) = [] from by simp, List.append_nil]
            exact s6 _ _ e5
          · rw [show (!decide (kV (Sum.inl cc : Key) = V.int j)) = true from by
              have : ¬ (kV (Sum.inl cc : Key) = V.int j) := fun z => e0 (V.int.inj z)
              rw [decide_eq_false this]
              rfl]
            have bm : (-M.sg (T.E i j)).natAbs < 2 ^ 1500 := by rw [Int.natAbs_neg]; exact b_sg _
            refine iteT ⟨_, rfl, _, rfl, _, rfl, _, rfl, _, _, rfl, rfl, sm_mul bm (b1500 (ok.eb i hi cc hcm)), _, .inl cc, rfl, s6 _ _ e5, ?_, ?_, ?_⟩
            · rw [rowK_length]
              exact lt20 (Nat.le_trans (fil_len ..) cl20)
            · exact same_put (s5.trans s6) (by rw [upd_ne (ne_of_none (s4 _ _ (sb _ _ y3)) hDd).symm]; exact hDd)
            · have ev : M.exQ T.E T.unit i j cc = -M.sg (T.E i j) * T.E i cc := if_neg cci
              rw [upd_same, take_snoc hcc, List.filter_append, show ([cc].filter fun c => decide (c ≠ j)) = [cc] from by simp [e0], ← row_new (fun hm => nodup_take ok.nc hcc (List.mem_filter.mp hm).1), ev]
        · rintro od Dd H5' hDd ⟨s5', e5'⟩
          rw [rowK_length, take_all] at e5'
          have nDr := (ne_of_none (s4 _ _ (sb _ _ y3)) hDd).symm
          obtain ⟨H5, hH5⟩ : ∃ H5, H5 = upd H5' r (.dK (rowK T.cols (T.E i))) := ⟨_, rfl⟩
          have s5 : Same H4 H5 := by rw [hH5]; exact same_upd2 (s4 _ _ (sb _ _ y3)) s5'
          have e5 : H5 Dd = some (.dK (rowK (T.cols.filter fun c => decide (c ≠ j)) (M.exQ T.E T.unit i j))) := by rw [hH5, upd_ne nDr]; exact e5'
          rw [← hH5]
          clear hH5 s5' e5'
          have sHb : Same Hb H5 := s4.trans s5
          have hDb : Hb Dd = none := s4.free hDd
          have hDH : H Dd = none := sb.free hDb
          have e6 := s5 _ _ e4
          have nDt : Dd ≠ td := (ne_of_none e4 hDd).symm
          have ins5 := sHb _ _ (sb _ _ ins)
          have p6 := rows_same s5 p5
          have ev : M.exQ T.E T.unit i j i = M.sg (T.E i j) * T.unit := if_pos rfl
          refine ⟨_, rfl, _, rfl, _, C, _, _, _, rfl, ins5, c.cl, c.nU, rfl, _, _, rfl, rfl, sm_mul (b_sg _) (b1500 ok.ub), _, rfl, _, rfl, Dd, _, rfl, DPut.k (k := (.inl i : Key)) e5 (by rw [rowK_length]; exact lt20 (Nat.le_trans (List.length_filter_le ..) cl20)), ?_⟩
          have r6 : putK (rowK (T.cols.filter fun c => decide (c ≠ j)) (M.exQ T.E T.unit i j)) (.inl i : Key) (.int (M.sg (T.E i j) * T.unit)) = rowK (exCols T.cols i j) (M.exQ T.E T.unit i j) := by
            rw [← ev, row_new (fun hm => ok.dj i hi (List.mem_filter.mp hm).1)]
            rfl
          refine ⟨_, rfl, _, rfl, _, rfl, td, _, rfl, DPut.k (k := (.inl j : Key)) (show (upd H5 Dd _) td = some (.dK kvs') from by rw [upd_ne nDt.symm]; exact e6) (by rw [p5.length]; exact lt20 (Nat.le_trans (List.length_filter_le ..) bl20)), ?_⟩
          show tSeq _ _ _ _ _
          rw [r6]
          have nDl : ∀ {b : Addr} {u : HO}, Hb b = some u → b ≠ Dd := fun e => ne_of_none e hDb
          have ntl : ∀ {b : Addr} {u : HO}, Hb b = some u → b ≠ td := fun e => ne_of_none e htd
          obtain ⟨H7, ⟨S7, eT, eD, p7⟩, hH7⟩ : ∃ H7, (Same Hb H7 ∧ H7 td = some (.dK (putK kvs' (.inl j : Key) (.ref Dd))) ∧ H7 Dd = some (.dK (rowK (exCols T.cols i j) (M.exQ T.E T.unit i j))) ∧ PD (RowR H7 (fun a => H a = none ∧ a ≠ td) (exCols T.cols i j)) kvs' (T.basis.filter fun o => decide (o ≠ i)) (fun o => exRow (T.E o) (T.E i) i j T.unit)) ∧
              upd (upd H5 Dd (.dK (rowK (exCols T.cols i j) (M.exQ T.E T.unit i j)))) td (.dK (putK kvs' (.inl j : Key) (.ref Dd))) = H7 := ⟨_, ⟨same_put (same_put sHb hDb) htd, upd_same, by rw [upd_ne nDt, upd_same], p5.imp fun v x hh => by
                obtain ⟨a, ea, ⟨q1, q2⟩, q3⟩ := hh
                exact ⟨a, ea, ⟨q1, q2⟩, by rw [upd_ne q2, upd_ne (ne_of_none q3 hDd)]; exact s5 _ _ q3⟩⟩, rfl⟩
          rw [hH7]
          clear hH7
          have S7H : Same H H7 := sb.trans S7
          have ins7 := S7H _ _ ins
          have r7 := S7H _ _ y3
          refine ⟨_, rfl, _, rfl, _, rfl, r, _, rfl, rowK_get hj ▸ DGet.k (k := (.inl j : Key)) r7, _, rfl, (by show 2 ≤ sizeLine; decide), fun tp2 htp2 => ⟨tp2, _, rfl, SqT.of upd_same, rfl, _, _, rfl, ?_⟩⟩
          obtain ⟨H8, S8, hH8⟩ : ∃ H8, Same H7 H8 ∧ upd H7 tp2 (.tup [.ref td, .int (if T.E i j < 0 then -T.E i j else T.E i j)]) = H8 := ⟨_, same_new htp2, rfl⟩
          rw [hH8, abs_nn]
          clear hH8
          have S8H : Same H H8 := S7H.trans S8
          have ins8 := S8H _ _ ins
          refine ⟨_, rfl, L.p, C, L.dx, _, rfl, ins8, c.cl, c.nT, (by show 6 < 1000; decide), _, _, rfl, _, rfl, L.p, C, L.dx, _, rfl, upd_same, c.cl, c.nU, (by show 6 < 1000; decide), rfl, ?_⟩
          have eF : putF ("unit" : Str) (.int ((T.E i j).natAbs : Int)) (putF ("table" : Str) (.ref td) (flds T.many L.sp L.he L.tb T.unit L.hi)) = flds T.many L.sp L.he td ((T.E i j).natAbs : Int) L.hi := rfl
          rw [eF]
          have nhp : L.he ≠ L.p := ne_of g3 ins (by intro z; cases z)
          have nsp : L.sp ≠ L.p := ne_of g5 ins (by intro z; cases z)
          have nsh : L.sp ≠ L.he := ne_of g5 g3 (by intro z; cases z)
          have nihp : L.hi ≠ L.p := ne_of g6 ins (by intro z; cases z)
          have nihh : L.hi ≠ L.he := ne_of g6 g3 (by intro z; cases z)
          have ntp : td ≠ L.p := (ne_of_none (sb _ _ ins) htd).symm
          have nth : td ≠ L.he := (ne_of_none (sb _ _ g3) htd).symm
          obtain ⟨H9, hH9⟩ : ∃ H9, H9 = upd (upd H8 L.p (.ins C L.dx (putF ("table" : Str) (.ref td) (flds T.many L.sp L.he L.tb T.unit L.hi)))) L.p (.ins C L.dx (flds T.many L.sp L.he td ((T.E i j).natAbs : Int) L.hi)) := ⟨_, rfl⟩
          rw [← hH9]
          have o9 : ∀ b, b ≠ L.p → H9 b = H8 b := fun b n => by rw [hH9, upd_ne n, upd_ne n]
          have ins9 : H9 L.p = some (.ins C L.dx (flds T.many L.sp L.he td ((T.E i j).natAbs : Int) L.hi)) := by rw [hH9, upd_same]
          clear hH9
          have he9 : H9 L.he = some (.dK kh) := by rw [o9 _ nhp]; exact S8H _ _ g3
          refine ⟨_, rfl, _, C, _, _, _, rfl, ins9, c.cl, c.nH, rfl, _, rfl, L.he, kh, .inl j, rfl, he9, rfl, (by rw [p3.isSome j, decide_eq_true hj]), ?_⟩
          obtain ⟨H10, hH10⟩ : ∃ H10, H10 = upd H9 L.he (.dK (dropK kh (.inl j : Key))) := ⟨_, rfl⟩
          rw [← hH10]
          have o10 : ∀ b, b ≠ L.p → b ≠ L.he → H10 b = H8 b := fun b n1 n2 => by rw [hH10, upd_ne n2, o9 b n1]
          have ins10 : H10 L.p = some (.ins C L.dx (flds T.many L.sp L.he td ((T.E i j).natAbs : Int) L.hi)) := by rw [hH10, upd_ne nhp.symm]; exact ins9
          have he10 : H10 L.he = some (.dK (dropK kh (.inl j : Key))) := by rw [hH10, upd_same]
          clear hH10
          have sp10 : H10 L.sp = some (.lst (ss.map V.ref)) := by rw [o10 _ nsp nsh]; exact S8H _ _ g5
          have kf : Keep [L.p, L.he] H8 H10 := fun b o e nb => by
            rw [o10 b (fun z => nb (z ▸ List.mem_cons_self)) (fun z => nb (z ▸ List.mem_cons_of_mem _ List.mem_cons_self))]
            exact e
          have wf : ∀ b ∈ [L.p, L.he], Wr H8 b := fun b hb => by
            rcases List.mem_cons.mp hb with rfl | hb
            · exact .inl ⟨_, _, _, ins8⟩
            · rw [List.mem_singleton.mp hb]
              exact .inr (.inr ⟨_, S8H _ _ g3⟩)
          have nv10 : FrA K H10 nv q := keep_tup kf wf (nvb.same (S7.trans S8))
          obtain ⟨sa, hsa, esa⟩ := nth_ends p5s he
          have es10 : EndsA K H10 sa ee := keep_ends kf wf (esa.same S8H)
          refine ⟨_, rfl, _, rfl, _, C, _, _, _, rfl, ins10, c.cl, c.nS, rfl, _, rfl, L.sp, _, _, .ref sa, rfl, rfl, SqL.of sp10, ?_, nv, sa, q, ee, rfl, nv10, es10, sq, se.1, se.2, fun res hres => ⟨_, rfl, _, C, _, _, _, rfl, ins10, c.cl, c.nH, rfl, _, rfl, L.he, _, rfl, DPut.k (k := (.inl i : Key)) he10 ?_, ?_⟩⟩
          · rw [show i = ((i.toNat : Nat) : Int) from by omega]
            refine atI_nat ?_
            rw [List.getElem?_map, hsa]
            rfl
          · rw [(p3.drop j).length]
            exact lt20 (Nat.le_trans (List.length_filter_le ..) cl20)
          · show Q V.non _
            have hrd : ∀ b ∈ [L.he], Wr H10 b := fun b hb => by
              rw [List.mem_singleton.mp hb]
              exact .inr (.inr ⟨_, he10⟩)
            have kl : ∀ u, Keep [L.he] H10 (upd H10 L.he u) := fun u b o e nb => by
              have n : b ≠ L.he := fun z => nb (by rw [z]; exact List.mem_cons_self)
              rw [upd_ne n]
              exact e
            have nrow : ∀ (R : Prop) (a : Addr), H a = none ∧ a ≠ td → a ≠ L.p ∧ a ≠ L.he := fun _ a ha => ⟨(ne_of_none ins ha.1).symm, (ne_of_none g3 ha.1).symm⟩
            refine h ⟨L.p, L.dx, L.sp, L.he, td, L.hi, fun a => H a = none ∧ a ≠ td⟩ _ (fun b o e nb => ?_) ⟨rfl, fun b hb => ?_, fun b hb => .inr hb.1⟩ ⟨?_, ⟨ss, ?_, ?_⟩, ⟨_, upd_same, ?_⟩, ⟨putK kvs' (.inl j : Key) (.ref Dd), ?_, ?_⟩, ⟨hs, ?_, p6s⟩, t.n1, nth.symm, ?_, fun hh => hh.2 rfl⟩
            · have n1 : b ≠ L.p := fun z => nb (by rw [z]; simp [Lay.fp])
              have n2 : b ≠ L.he := fun z => nb (by rw [z]; simp [Lay.fp])
              rw [upd_ne n2, o10 b n1 n2]
              exact S8H _ _ e
            · simp only [Lay.fp, List.mem_cons, List.not_mem_nil, or_false] at hb ⊢
              rcases hb with rfl | rfl | rfl | rfl | rfl
              · simp
              · simp
              · simp
              · exact .inr htdH
              · simp
            · rw [upd_ne nhp.symm]
              exact ins10
            · rw [upd_ne nsh]
              exact sp10
            · exact keep_spans (kl _) hrd (keep_spans kf wf (spans_same S8H p5s))
            · have := keep_held (kl (.dK (putK (dropK kh (.inl j : Key)) (.inl i) (.ref res)))) hrd (keep_held kf wf (held_same S8H (p3.drop j)))
              exact this.new (fun hm => ok.dj i hi (List.mem_filter.mp hm).1) ⟨res, rfl, keep_tup (kl _) hrd hres⟩
            · rw [upd_ne nth, o10 _ ntp nth]
              exact S8 _ _ eT
            · have p8 : PD (RowR (upd H10 L.he (.dK (putK (dropK kh (.inl j : Key)) (.inl i) (.ref res)))) (fun a => H a = none ∧ a ≠ td) (exCols T.cols i j)) kvs' (T.basis.filter fun o => decide (o ≠ i)) (fun o => exRow (T.E o) (T.E i) i j T.unit) := p7.imp fun v x hh => by
                obtain ⟨a, ea, hn, q3⟩ := hh
                obtain ⟨m1, m2⟩ := nrow True a hn
                exact ⟨a, ea, hn, by rw [upd_ne m2, o10 _ m1 m2]; exact S8 _ _ q3⟩
              have nD : H Dd = none ∧ Dd ≠ td := ⟨hDH, nDt⟩
              obtain ⟨m1, m2⟩ := nrow True Dd nD
              refine (p8.new (k := j) (v := .ref Dd) (x := M.exQ T.E T.unit i j) (fun hm => ok.dj j (List.mem_filter.mp hm).1 hj) ⟨Dd, rfl, nD, by rw [upd_ne m2, o10 _ m1 m2]; exact S8 _ _ eD⟩).congr fun o ho => ?_
              by_cases e : o = j
              · subst e
                rw [if_pos rfl]
                funext cc
                exact (if_pos rfl).symm
              · rw [if_neg e]
                funext cc
                exact (if_neg e).symm
            · rw [upd_ne nihh, o10 _ nihp nihh]
              exact S8H _ _ g6
            · exact fun hh => by
                have z : H L.he = none := hh.1
                rw [g3] at z
                cases z
end
end K24
/-! K24B: move, give_ends, put_end. -/
namespace K24
open PySem PySem.Spec PyProof.Rows L2
section
variable {P : Program} {w : World} {K : PySem.W.Frag} {mg : Str → Option Value} {base : Heap} {f : Addr} {fd : FuncData} {cI cR C z : Addr}
structure DMv (P : Program) (w : World) (K : PySem.W.Frag) (mg : Str → Option Value) (base : Heap) (cI cR : Addr) : Prop where
  is_number : Dn P w K mg base "is_number" 2 ["value"] (spIsNum K)
  is_fraction : Dn P w K mg base "is_fraction" 2 ["value"] (spIsFr K)
  Refused : De P w K mg base "Refused" cR
  InvalidNumber : De P w K mg base "InvalidNumber" cI
/-- only its errors are asked for -/
def spMove (K : PySem.W.Frag) (C cI cR : Addr) : Sp := fun vs H Q E => ∃ L T c t v, vs = [.ref L.p, c, v] ∧ TabAt K C H L T ∧ Odd K H c t ∧ (inB T.cols c = false → Err cR "column" H E) ∧ (inB T.cols c = true → FrC K H v false ∧ Err cI "value" H E)
theorem Err.same {C : Addr} {x : Str} {H H' : Hp} {E : XK} (h : Err C x H E) (s : Same H H') : Err C x H' E := fun d H2 n s2 e => h d H2 (s.free n) (s.trans s2) e
theorem ok_move (F : Fun K "move" "Tableau.move" s_Tab_move f fd) (c : TC K C) (D : DMv P w K mg base cI cR) : FnOk P w K mg base (L2.CX P w) 3 f fd ["self", "column", "value"] (spMove K C cI cR) := by
  refine F.okX sc_Tab_move (fun vs H Q E h => ?_) (fun cdv A outer s H vs Q E hr h => ?_)
  · obtain ⟨L, T, x, t, v, rfl, _⟩ := h
    rfl
  · obtain ⟨L, T, x, tx, v, rfl, t, o, h1, h2⟩ := h
    have hu := hu_of hr
    obtain ⟨kh, g3, p3⟩ := t.held
    refine ⟨_, (pss_cons (ps_if (PW.pt (pw_or (pt_not (pt_val (pe_dn D.is_number (hr.mono (by decide)) rfl passL (pa_cons (pv 1) pa_nil)))) (pw_or1 (pt_cmp (pc_dnotin (by exact hu) (pv 1) (pe_fldK (K := K) (pv 0) (by rfl) (by rfl))))))) (pss_one (ps_err D.Refused rfl (takes_of rfl rfl rfl rfl) (hr.mono (by decide)) rfl pe_str)) pss_nil)
      (pss_cons (ps_if (pt_not (pt_val (pe_dn D.is_fraction (hr.mono (by decide)) rfl passL (pa_cons (pv 2) pa_nil)))) (pss_one (ps_err D.InvalidNumber rfl (takes_of rfl rfl rfl rfl) (hr.mono (by decide)) rfl pe_str)) pss_nil)
      (pss_cons ps_never
      (pss_one ps_never)))), ?_⟩
    refine key_test rfl o g3 p3 (fun R q => rd_held c t.ins rfl q) (fun e => err_leaf fun d H' => h1 e d H') fun e => ?_
    obtain ⟨fc, er⟩ := h2 e
    refine ⟨_, rfl, v, false, rfl, fc, fun H' s1 => ⟨_, rfl, ?_⟩⟩
    exact iteT (err_leaf fun d H2 => (er.same s1) d H2)
/-! K24B: ### give_ends -/
structure DGe (P : Program) (w : World) (K : PySem.W.Frag) (mg : Str → Option Value) (base : Heap) : Prop where
  between_ends : Dn P w K mg base "between_ends" 2 ["value", "ends"] (spBetw K)
def giveT (T : Tab) (k : Int) (e : Ends2) (lg : Nat) : Tab := { T with spans := T.spans.set k.toNat e, hv := fun c => if c = k then betw (T.hv k) e else T.hv c, log := lg }
def spGive (K : PySem.W.Frag) (C : Addr) : Sp := fun vs H Q _ => ∃ L T k ea e, vs = [.ref L.p, .int k, .ref ea] ∧ TabAt K C H L T ∧ 0 ≤ k ∧ k < T.spans.length ∧ EndsA K H ea e ∧ SmE e ∧ Sm (T.hv k) ∧ T.cols.length ≤ 20 ∧
  ∀ H', Keep L.fp H H' → TabAt K C H' L (giveT T k e T.log) → Q .non H'
theorem paired_set {α β : Type} {R : α → β → Prop} {l : List α} {m : List β} (h : Paired R l m) {n : Nat} {a : α} {b : β} (r : R a b) : Paired R (l.set n a) (m.set n b) := by
  induction h generalizing n with
  | nil => exact .nil
  | cons x t ih =>
    cases n with
    | zero => exact .cons r t
    | succ n => exact .cons x ih
theorem pd_skip {α : Type} {R : V → α → Prop} {kvs : List (Key × V)} {ks : List Int} {g : Int → α} {k : Int} {x : α} (h : PD R kvs ks g) (hk : k ∉ ks) : PD R kvs ks (fun j => if j = k then x else g j) :=
  h.congr fun j hj => (if_neg (fun z => hk (by rw [← z]; exact hj))).symm
theorem ok_give_ends (F : Fun K "give_ends" "Tableau.give_ends" s_Tab_give_ends f fd) (c : TC K C) (D : DGe P w K mg base) : FnOk P w K mg base (L2.CX P w) 3 f fd ["self", "place", "ends"] (spGive K C) := by
  refine F.okX sc_Tab_give_ends (fun vs H Q E h => ?_) (fun cdv A outer s H vs Q E hr h => ?_)
  · obtain ⟨L, T, k, ea, e, rfl, _⟩ := h
    rfl
  · obtain ⟨L, T, k, ea, e, rfl, t, k0, k1, he, se, sh, cl20, h⟩ := h
    have hu := hu_of hr
    obtain ⟨kh, g3, p3⟩ := t.held
    obtain ⟨kt, g4, p4⟩ := t.table
    obtain ⟨ss, g5, p5⟩ := t.spans
    obtain ⟨hs, g6, p6⟩ := t.hist
    have ins := t.ins
    refine ⟨_, (pss_cons (ps_asg (pv 2) (pg_sub (pe_fldK (K := K) (pv 0) (by rfl) (by rfl)) (pv 1) set_list))
      (pss_one (ps_if (pt_cmp (pc_din (by exact hu) (pv 1) (pe_fldK (K := K) (pv 0) (by rfl) (by rfl)))) (pss_one (ps_dput (by exact hu) (pe_fldK (K := K) (pv 0) (by rfl) (by rfl)) (pv 1) (pe_dn D.between_ends (hr.mono (by decide)) rfl passL (pa_cons (pe_dget (by exact hu) (pe_fldK (K := K) (pv 0) (by rfl) (by rfl)) (pv 1) (fun _ _ => rfl)) (pa_cons (pv 2) pa_nil))) rfl)) pss_nil))), ?_⟩
    refine ⟨_, rfl, _, rfl, _, C, _, _, _, rfl, ins, c.cl, c.nS, rfl, _, rfl, L.sp, _, k, k.toNat, rfl, rfl, g5, ?_, ?_⟩
    · rw [List.length_map, Paired.length p5]
      unfold ixN
      rw [if_pos k0, if_pos k1]
    · have nps : L.p ≠ L.sp := ne_of ins g5 (by intro z; cases z)
      have nhs : L.he ≠ L.sp := ne_of g3 g5 (by intro z; cases z)
      have nts : L.tb ≠ L.sp := ne_of g4 g5 (by intro z; cases z)
      obtain ⟨H1, hH1⟩ : ∃ H1, upd H L.sp (.lst ((ss.map V.ref).set k.toNat (.ref ea))) = H1 := ⟨_, rfl⟩
      have o1 : ∀ b, b ≠ L.sp → H1 b = H b := fun b n => by rw [← hH1, upd_ne n]
      have sp1 : H1 L.sp = some (.lst ((ss.set k.toNat ea).map V.ref)) := by rw [← hH1, upd_same, List.map_set]
      rw [hH1]
      clear hH1
      have ins1 : H1 L.p = some (.ins C L.dx (flds T.many L.sp L.he L.tb T.unit L.hi)) := by rw [o1 _ nps]; exact ins
      have he1 : H1 L.he = some (.dK kh) := by rw [o1 _ nhs]; exact g3
      have k1' : Keep [L.sp] H H1 := fun b o eb nb => by
        have n : b ≠ L.sp := fun z => nb (by rw [z]; exact List.mem_cons_self)
        rw [o1 b n]
        exact eb
      have w1 : ∀ b ∈ [L.sp], Wr H b := fun b hb => by
        rw [List.mem_singleton.mp hb]
        exact .inr (.inl ⟨_, g5⟩)
      have nrs : ∀ b ∈ [L.sp], ¬ L.rows b ∨ True := fun _ _ => .inr trivial
      have ends1 : Paired (EndsA K H1) (ss.set k.toNat ea) (T.spans.set k.toNat e) := paired_set (keep_spans k1' w1 p5) (keep_ends k1' w1 he)
      have held1 := keep_held k1' w1 p3
      have rows1 : PD (RowR H1 L.rows T.cols) kt T.basis T.E := p4.imp fun v x hh => by
        obtain ⟨a, ea, ra, ka⟩ := hh
        exact ⟨a, ea, ra, k1' _ _ ka (fun z => by rw [List.mem_singleton.mp z, g5] at ka; cases ka)⟩
      have hi1 : H1 L.hi = some (.lst hs) := by rw [o1 _ t.n1.symm]; exact g6
      have tb1 : H1 L.tb = some (.dK kt) := by rw [o1 _ nts]; exact g4
      refine ⟨_, rfl, _, rfl, _, C, _, _, _, rfl, ins1, c.cl, c.nH, rfl, L.he, _, rfl, DGet.k (k := (.inl k : Key)) he1, _, rfl, ?_⟩
      rw [held1.isSome k]
      by_cases hk : k ∈ T.cols
      · rw [decide_eq_true hk]
        obtain ⟨y, y1, a, rfl, ra⟩ := held1.get hk
        refine iteT ⟨_, rfl, _, C, _, _, _, rfl, ins1, c.cl, c.nH, rfl, _, rfl, L.he, _, rfl, y1 ▸ DGet.k (k := (.inl k : Key)) he1, _, rfl, a, ea, T.hv k, e, rfl, ra, keep_ends k1' w1 he, sh, se.1, se.2, fun r hr => ⟨_, rfl, _, C, _, _, _, rfl, ins1, c.cl, c.nH, rfl, _, rfl, L.he, _, rfl, DPut.k (k := (.inl k : Key)) he1 ?_, ?_⟩⟩
        · rw [p3.length]
          exact Nat.lt_of_le_of_lt cl20 (by decide)
        · show Q V.non _
          have kl : ∀ u, Keep [L.he] H1 (upd H1 L.he u) := fun u b o e nb => by
            have n : b ≠ L.he := fun z => nb (by rw [z]; exact List.mem_cons_self)
            rw [upd_ne n]
            exact e
          have wl : ∀ b ∈ [L.he], Wr H1 b := fun b hb => by
            rw [List.mem_singleton.mp hb]
            exact .inr (.inr ⟨_, he1⟩)
          have nph : L.p ≠ L.he := ne_of ins g3 (by intro z; cases z)
          have nih : L.hi ≠ L.he := ne_of g6 g3 (by intro z; cases z)
          refine h _ (fun b o eb nb => ?_) ⟨?_, ⟨ss.set k.toNat ea, ?_, keep_spans (kl _) wl ends1⟩, ⟨_, upd_same, (keep_held (kl _) wl held1).put hk ⟨r, rfl, keep_tup (kl _) wl hr⟩⟩, ⟨kt, ?_, keep_rows (kl _) (fun b hb => by rw [List.mem_singleton.mp hb]; exact t.n3) rows1⟩, ⟨hs, ?_, p6⟩, t.n1, t.n2, t.n3, t.n4⟩
          · have n1 : b ≠ L.sp := fun z => nb (by rw [z]; simp [Lay.fp])
            have n2 : b ≠ L.he := fun z => nb (by rw [z]; simp [Lay.fp])
            rw [upd_ne n2, o1 b n1]
            exact eb
          · rw [upd_ne nph]
            exact ins1
          · rw [upd_ne nhs.symm]
            exact sp1
          · rw [upd_ne t.n2.symm]
            exact tb1
          · rw [upd_ne nih]
            exact hi1
      · rw [decide_eq_false hk]
        refine iteF ?_
        show Q V.non _
        exact h _ (fun b o eb nb => k1' b o eb (fun z => nb (by rw [List.mem_singleton.mp z]; simp [Lay.fp]))) ⟨ins1, ⟨_, sp1, ends1⟩, ⟨kh, he1, pd_skip held1 hk⟩, ⟨kt, tb1, rows1⟩, ⟨hs, hi1, p6⟩, t.n1, t.n2, t.n3, t.n4⟩
/-! K24B: ### put_end -/
structure DPu (P : Program) (w : World) (K : PySem.W.Frag) (mg : Str → Option Value) (base : Heap) (C cI : Addr) : Prop where
  need_number : Dn P w K mg base "need_number" 3 ["value", "most", "word"] (spNeed K cI)
  are_crossed : Dn P w K mg base "are_crossed" 2 ["ends"] (spCross K)
  give_ends : Dm P w K mg base C "give_ends" 3 ["self", "place", "ends"] (spGive K C)
  is_fraction : Dn P w K mg base "is_fraction" 2 ["value"] (spIsFr K)
def spPut (K : PySem.W.Frag) (C : Addr) : Sp := fun vs H Q _ => ∃ L T k sd lo hi e, vs = [.ref L.p, .int k, .int sd, .non] ∧ TabAt K C H L T ∧ 0 ≤ k ∧ k < T.spans.length ∧ T.log < 1000 ∧ T.spans[k.toNat]? = some (lo, hi) ∧ ((sd = 0 ∧ e = (none, hi)) ∨ (sd = 1 ∧ lo = none ∧ e = (none, none))) ∧ SmE e ∧ Sm (T.hv k) ∧ T.cols.length ≤ 20 ∧
  ∀ H', Keep L.fp H H' → TabAt K C H' L (giveT T k e (T.log + 1)) → Q .non H'
theorem ok_put_end (F : Fun K "put_end" "Tableau.put_end" s_Tab_put_end f fd) (c : TC K C) (Z : Bz mg) (D : DPu P w K mg base C cI) : FnOk P w K mg base (L2.CX P w) 4 f fd ["self", "place", "side", "value"] (spPut K C) := by
  refine F.okX sc_Tab_put_end (fun vs H Q E h => ?_) (fun cdv A outer s H vs Q E hr h => ?_)
  · obtain ⟨L, T, k, sd, lo, hi, e, rfl, _⟩ := h
    rfl
  · obtain ⟨L, T, k, sd, lo, hi, e, rfl, t, k0, k1, lg, hs, hsd, se, sh, cl20, h⟩ := h
    have hu := hu_of hr
    have nd := sc_Tab_put_end.nd
    obtain ⟨kh, g3, p3⟩ := t.held
    obtain ⟨kt, g4, p4⟩ := t.table
    obtain ⟨ss, g5, p5⟩ := t.spans
    obtain ⟨hx, g6, p6⟩ := t.hist
    have ins := t.ins
    refine ⟨_, (pss_cons (ps_expr (pe_dn D.need_number (hr.mono (by decide)) rfl (passes_call (takes_of rfl rfl rfl rfl) (fun _ _ _ _ z => z)) (pa_cons (pv 1) (pa_cons (pe_op op_sub (pe_callB call_len_seq rfl Z.len_ PySem.boot_len (pa_cons (pe_fldK (K := K) (pv 0) (by rfl) (by rfl)) pa_nil)) pe_int) (pa_cons pe_str pa_nil)))))
      (pss_cons (ps_expr (pe_dn D.need_number (hr.mono (by decide)) rfl (passes_call (takes_of rfl rfl rfl rfl) (fun _ _ _ _ z => z)) (pa_cons (pv 2) (pa_cons pe_int (pa_cons pe_str pa_nil)))))
      (pss_cons (ps_if (PW.pt (pw_and (pt_cmpR op_notN (pv 3) pe_non (nomark _)) (pw_and1 (pt_not (pt_val (pe_dn D.is_fraction (hr.mono (by decide)) rfl passL (pa_cons (pv 3) pa_nil))))))) (pss_one ps_never) pss_nil)
      (pss_cons (ps_asg (pe_ix (r := rIxL K) ix_list (pe_fldK (K := K) (pv 0) (by rfl) (by rfl)) (pv 1) (fun _ _ => rfl)) (pg_tupK (K := K) (n := 2) rfl (pgs_cons (pg_name (i := 4) nd rfl (Or.inl rfl)) (pgs_cons (pg_name (i := 5) nd rfl (Or.inl rfl)) pgs_nil)) (by rfl)))
      (pss_cons (ps_set (i := 6) nd rfl (Or.inl rfl) (pe_ifExp (pt_cmpR op_eq (pv 2) pe_int (nomark _)) (pe_tup (pa_cons (pv 3) (pa_cons (pv 5) pa_nil))) (pe_tup (pa_cons (pv 4) (pa_cons (pv 3) pa_nil)))))
      (pss_cons (ps_if (pt_val (pe_dn D.are_crossed (hr.mono (by decide)) rfl passL (pa_cons (pv 6) pa_nil))) (pss_one ps_never) pss_nil)
      (pss_cons (ps_expr (pe_bm PySem.F.plainAttrs_list PySem.F.slot_list_append PySem.F.type_list_append mt_append (pe_fldK (K := K) (pv 0) (by rfl) (by rfl)) (pa_cons (pe_tup (pa_cons (pv 1) (pa_cons (pe_tup (pa_cons (pv 4) (pa_cons (pv 5) pa_nil))) pa_nil))) pa_nil)))
      (pss_one (ps_expr (pe_dm (pv 0) D.give_ends (hr.mono (by decide)) passL (pa_cons (pv 1) (pa_cons (pv 6) pa_nil)))))))))))), ?_⟩
    refine ⟨_, rfl, _, rfl, _, C, _, _, _, rfl, ins, c.cl, c.nS, rfl, _, _, rfl, .inl (SqL.of g5), _, _, rfl, rfl, ?_⟩
    rw [List.length_map, Paired.length p5]
    refine ⟨.int k, "int", _, _, rfl, .int _, (fun _ => ?_), fun z => absurd ((decide_eq_true (by omega : 0 ≤ k ∧ k ≤ (T.spans.length : Int) - 1)).symm.trans z) (by decide)⟩
    have sd2 : 0 ≤ sd ∧ sd ≤ 1 := by omega
    refine ⟨_, rfl, .int sd, "int", _, _, rfl, .int _, (fun _ => ?_), fun z => absurd ((decide_eq_true sd2).symm.trans z) (by decide)⟩
    obtain ⟨sa, hsa, esa⟩ := nth_ends p5 hs
    obtain ⟨x, y, hxy, ex, ey⟩ := esa
    refine ⟨_, rfl, rfl, _, rfl, iteF ⟨_, rfl, _, C, _, _, _, rfl, ins, c.cl, c.nS, rfl, _, rfl, L.sp, _, _, .ref sa, rfl, rfl, SqL.of g5, ?_, sa, _, rfl, hxy, rfl, x, _, rfl, y, _, rfl, rfl, ?_⟩⟩
    · rw [show k = ((k.toNat : Nat) : Int) from by omega]
      refine atI_nat ?_
      rw [List.getElem?_map, hsa]
      rfl
    · rcases hsd with ⟨rfl, rfl⟩ | ⟨rfl, rfl, rfl⟩
      · refine ⟨_, rfl, rfl, _, rfl, iteT ⟨_, rfl, _, rfl, (by show 2 ≤ sizeLine; decide), fun ea hea => ?_⟩⟩
        have sx := same_new (o := .tup [.non, y]) hea
        refine ⟨_, rfl, ea, y, rfl, SqT.of upd_same, _, rfl, iteF ?_⟩
        have ins1 := sx _ _ ins
        have g61 := sx _ _ g6
        refine ⟨_, rfl, _, C, _, _, _, rfl, ins1, c.cl, c.nI, rfl, .inl ⟨rfl, _, SqL.of g61⟩, _, rfl, _, rfl, _, rfl, (by show 2 ≤ sizeLine; decide), fun t1 ht1 => ⟨(by show 2 ≤ sizeLine; decide), fun t2 ht2 => ?_⟩⟩
        obtain ⟨H2, s2, hH2⟩ : ∃ H2, Same H H2 ∧ upd (upd (upd H ea (.tup [.non, y])) t1 (.tup [x, y])) t2 (.tup [.int k, .ref t1]) = H2 := ⟨_, (sx.trans (same_new ht1)).trans (same_new ht2), rfl⟩
        have e2 : H2 ea = some (.tup [.non, y]) := by
          rw [← hH2]
          exact (same_new ht2) _ _ ((same_new ht1) _ _ upd_same)
        rw [hH2]
        clear hH2
        have gh := s2 _ _ g6
        refine ⟨L.hi, hx, .ref t2, rfl, rfl, gh, (by rw [p6]; exact Nat.lt_of_lt_of_le lg (by decide)), ?_⟩
        obtain ⟨H3, hH3⟩ : ∃ H3, upd H2 L.hi (.lst (hx ++ [.ref t2])) = H3 := ⟨_, rfl⟩
        have o3 : ∀ b, b ≠ L.hi → H3 b = H2 b := fun b n => by rw [← hH3, upd_ne n]
        have hi3 : H3 L.hi = some (.lst (hx ++ [.ref t2])) := by rw [← hH3, upd_same]
        rw [hH3]
        clear hH3
        have k3 : Keep [L.hi] H2 H3 := fun b o eb nb => by
          have n : b ≠ L.hi := fun z => nb (by rw [z]; exact List.mem_cons_self)
          rw [o3 b n]
          exact eb
        have w3 : ∀ b ∈ [L.hi], Wr H2 b := fun b hb => by
          rw [List.mem_singleton.mp hb]
          exact .inr (.inl ⟨_, gh⟩)
        have t3 : TabAt K C H3 L { T with log := T.log + 1 } := by
          refine ⟨?_, ⟨ss, ?_, keep_spans k3 w3 (spans_same s2 p5)⟩, ⟨kh, ?_, keep_held k3 w3 (held_same s2 p3)⟩, ⟨kt, ?_, (rows_same s2 p4).imp fun v x hh => ?_⟩, ⟨_, hi3, by rw [List.length_append, p6]; rfl⟩, t.n1, t.n2, t.n3, t.n4⟩
          · rw [o3 _ (ne_of ins g6 (by intro z; cases z))]
            exact s2 _ _ ins
          · rw [o3 _ t.n1]
            exact s2 _ _ g5
          · rw [o3 _ (ne_of g3 g6 (by intro z; cases z))]
            exact s2 _ _ g3
          · rw [o3 _ (ne_of g4 g6 (by intro z; cases z))]
            exact s2 _ _ g4
          · obtain ⟨a, ea', ra, ka⟩ := hh
            exact ⟨a, ea', ra, k3 _ _ ka (fun z => by rw [List.mem_singleton.mp z, gh] at ka; cases ka)⟩
        have he3 : EndsA K H3 ea (none, hi) := keep_ends k3 w3 (a := ea) ⟨_, _, SqT.of e2, rfl, ey.same s2⟩
        refine ⟨_, rfl, L.p, _, _, rfl, t3.ins, rfl, _, rfl, _, rfl, L, _, k, ea, (none, hi), rfl, t3, k0, k1, he3, se, sh, cl20, fun H4 k4 t4 => ?_⟩
        show Q V.non _
        refine h H4 (fun b o eb nb => k4 b o ?_ nb) t4
        have n : b ≠ L.hi := fun z => nb (by rw [z]; simp [Lay.fp])
        rw [o3 b n]
        exact s2 _ _ eb
      · refine ⟨_, rfl, rfl, _, rfl, iteF ⟨_, rfl, _, rfl, (by show 2 ≤ sizeLine; decide), fun ea hea => ?_⟩⟩
        have ex : x = V.non := ex
        subst ex
        have sx := same_new (o := .tup [.non, .non]) hea
        refine ⟨_, rfl, ea, .non, rfl, SqT.of upd_same, _, rfl, iteF ?_⟩
        have ins1 := sx _ _ ins
        have g61 := sx _ _ g6
        refine ⟨_, rfl, _, C, _, _, _, rfl, ins1, c.cl, c.nI, rfl, .inl ⟨rfl, _, SqL.of g61⟩, _, rfl, _, rfl, _, rfl, (by show 2 ≤ sizeLine; decide), fun t1 ht1 => ⟨(by show 2 ≤ sizeLine; decide), fun t2 ht2 => ?_⟩⟩
        obtain ⟨H2, s2, hH2⟩ : ∃ H2, Same H H2 ∧ upd (upd (upd H ea (.tup [.non, .non])) t1 (.tup [.non, y])) t2 (.tup [.int k, .ref t1]) = H2 := ⟨_, (sx.trans (same_new ht1)).trans (same_new ht2), rfl⟩
        have e2 : H2 ea = some (.tup [.non, .non]) := by
          rw [← hH2]
          exact (same_new ht2) _ _ ((same_new ht1) _ _ upd_same)
        rw [hH2]
        clear hH2
        have gh := s2 _ _ g6
        refine ⟨L.hi, hx, .ref t2, rfl, rfl, gh, (by rw [p6]; exact Nat.lt_of_lt_of_le lg (by decide)), ?_⟩
        obtain ⟨H3, hH3⟩ : ∃ H3, upd H2 L.hi (.lst (hx ++ [.ref t2])) = H3 := ⟨_, rfl⟩
        have o3 : ∀ b, b ≠ L.hi → H3 b = H2 b := fun b n => by rw [← hH3, upd_ne n]
        have hi3 : H3 L.hi = some (.lst (hx ++ [.ref t2])) := by rw [← hH3, upd_same]
        rw [hH3]
        clear hH3
        have k3 : Keep [L.hi] H2 H3 := fun b o eb nb => by
          have n : b ≠ L.hi := fun z => nb (by rw [z]; exact List.mem_cons_self)
          rw [o3 b n]
          exact eb
        have w3 : ∀ b ∈ [L.hi], Wr H2 b := fun b hb => by
          rw [List.mem_singleton.mp hb]
          exact .inr (.inl ⟨_, gh⟩)
        have t3 : TabAt K C H3 L { T with log := T.log + 1 } := by
          refine ⟨?_, ⟨ss, ?_, keep_spans k3 w3 (spans_same s2 p5)⟩, ⟨kh, ?_, keep_held k3 w3 (held_same s2 p3)⟩, ⟨kt, ?_, (rows_same s2 p4).imp fun v x hh => ?_⟩, ⟨_, hi3, by rw [List.length_append, p6]; rfl⟩, t.n1, t.n2, t.n3, t.n4⟩
          · rw [o3 _ (ne_of ins g6 (by intro z; cases z))]
            exact s2 _ _ ins
          · rw [o3 _ t.n1]
            exact s2 _ _ g5
          · rw [o3 _ (ne_of g3 g6 (by intro z; cases z))]
            exact s2 _ _ g3
          · rw [o3 _ (ne_of g4 g6 (by intro z; cases z))]
            exact s2 _ _ g4
          · obtain ⟨a, ea', ra, ka⟩ := hh
            exact ⟨a, ea', ra, k3 _ _ ka (fun z => by rw [List.mem_singleton.mp z, gh] at ka; cases ka)⟩
        have he3 : EndsA K H3 ea (none, none) := keep_ends k3 w3 (a := ea) ⟨_, _, SqT.of e2, rfl, rfl⟩
        refine ⟨_, rfl, L.p, _, _, rfl, t3.ins, rfl, _, rfl, _, rfl, L, _, k, ea, (none, none), rfl, t3, k0, k1, he3, se, sh, cl20, fun H4 k4 t4 => ?_⟩
        show Q V.non _
        refine h H4 (fun b o eb nb => k4 b o ?_ nb) t4
        have n : b ≠ L.hi := fun z => nb (by rw [z]; simp [Lay.fp])
        rw [o3 b n]
        exact s2 _ _ eb
end
end K24
/-! K24C: add_row. -/
namespace K24
open PySem PySem.Spec PyProof.Rows L2
def idx (n : Nat) : List Int := (List.range n).map fun i : Nat => (i : Int)
theorem idx_length (n : Nat) : (idx n).length = n := by unfold idx; rw [List.length_map, List.length_range]
theorem idx_get {n i : Nat} (h : i < n) : (idx n)[i]? = some (i : Int) := by
  unfold idx
  rw [List.getElem?_map, List.getElem?_range h]
  rfl
theorem idx_mem {n : Nat} {k : Int} : k ∈ idx n ↔ 0 ≤ k ∧ k < n := by
  unfold idx
  constructor
  · intro h
    obtain ⟨i, hi, rfl⟩ := List.mem_map.mp h
    have := List.mem_range.mp hi
    omega
  · intro h
    exact List.mem_map.mpr ⟨k.toNat, List.mem_range.mpr (by omega), by omega⟩
theorem idx_nodup (n : Nat) : (idx n).Nodup := by
  unfold idx
  exact List.Pairwise.map _ (fun a b h e => h (by omega)) List.nodup_range
/-- the ends of a row's place -/
def rowEnds (eq : Bool) (b : Int) : Ends2 := (some (b, 1), if eq = true then some (b, 1) else none)
def addT (T : Tab) (cs : List Int) (eq : Bool) (b : Int) : Tab := { T with
  spans := T.spans ++ [rowEnds eq b], basis := T.basis ++ [(T.spans.length : Int)], E := fun o => if o = (T.spans.length : Int) then (fun c => cs.getD c.toNat 0 * T.unit) else T.E o }
theorem row_put {ks : List Int} {g : Int → Int} {k x : Int} (hk : k ∈ ks) : putK (rowK ks g) (.inl k : Key) (.int x) = rowK ks (fun j => if j = k then x else g j) :=
  ((PD.row ks g).put hk (v := .int x) (x := x) rfl).to_row
section
variable {P : Program} {w : World} {K : PySem.W.Frag} {mg : Str → Option Value} {base : Heap} {f : Addr} {fd : FuncData} {cI cR C z : Addr}
theorem pi_enumTK {X : Cx} {K : PySem.W.Frag} {e : Expr} {ta : TA} {p pos tpos : Pos} {elts : List Expr} {kk : Nat} (hg : Gl X "enumerate") (hm : X.mg "enumerate" = none) (ha : PA X [e] ta) (hK : X.K = K) (hs : starEach [e] X.env = [(false, eval e X.env)] := by rfl) :
    PI X (.Tuple elts kk tpos) (.Call (.Name "enumerate" p) [e] [] pos) (iEnumT K ta) := hK ▸ pi_enumT hg hm ha hs
structure DAd (P : Program) (w : World) (K : PySem.W.Frag) (mg : Str → Option Value) (base : Heap) : Prop where
  whole : Dn P w K mg base "whole" 1 ["number"] spWhole
structure RowAt (K : PySem.W.Frag) (H : Hp) (ra : Addr) (cs : List Int) (eq : Bool) (b : Int) : Prop where
  ex : ∃ ca, SqT K H ra [.ref ca, .bl eq, .int b] ∧ SqT K H ca (cs.map V.int)
def spAdd (K : PySem.W.Frag) (C : Addr) : Sp := fun vs H Q _ => ∃ L T ra cs eq b, vs = [.ref L.p, .ref ra] ∧ TabAt K C H L T ∧ T.Ok ∧ RowAt K H ra cs eq b ∧ T.cols = idx cs.length ∧ (∀ x ∈ cs, x.natAbs < 2 ^ 700) ∧
  ∀ L' H', Keep L.fp H H' → Grow H L L' → TabAt K C H' L' (addT T cs eq b) → Q (.int T.spans.length) H'
theorem ok_add_row (F : Fun K "add_row" "Tableau.add_row" s_Tab_add_row f fd) (c : TC K C) (Z : Bz mg) (D : DAd P w K mg base) : FnOk P w K mg base (L2.CX P w) 2 f fd ["self", "row"] (spAdd K C) := by
  refine F.okX sc_Tab_add_row (fun vs H Q E h => ?_) (fun cdv A outer s H vs Q E hr h => ?_)
  · obtain ⟨L, T, ra, cs, eq, b, rfl, _⟩ := h
    rfl
  · obtain ⟨L, T, ra, cs, eq, b, rfl, t, ok, ⟨ca, hra, hca⟩, hcols, hcs, h⟩ := h
    have hu := hu_of hr
    have nd := sc_Tab_add_row.nd
    obtain ⟨kh, g3, p3⟩ := t.held
    obtain ⟨kt, g4, p4⟩ := t.table
    obtain ⟨ss, g5, p5⟩ := t.spans
    obtain ⟨hx, g6, p6⟩ := t.hist
    have ins := t.ins
    have n20 : cs.length ≤ 20 := by rw [← idx_length cs.length, ← hcols]; exact ok.cl
    have lt20 : ∀ {n : Nat}, n ≤ 20 → n < sizeLine := fun h => Nat.lt_of_le_of_lt h (by decide)
    refine ⟨_, (pss_cons (ps_asg (pv 1) (pg_tupK (K := K) (n := 3) rfl (pgs_cons (pg_name (i := 2) nd rfl (Or.inl rfl)) (pgs_cons (pg_name (i := 3) nd rfl (Or.inl rfl)) (pgs_cons (pg_name (i := 4) nd rfl (Or.inl rfl)) pgs_nil))) (by rfl)))
      (pss_cons (ps_par (i := 5) (j := 6) rfl nd rfl rfl (by decide) rfl rfl (pa_cons (pe_callB call_len_seq rfl Z.len_ PySem.boot_len (pa_cons (pe_fldK (K := K) (pv 0) (by rfl) (by rfl)) pa_nil)) (pa_cons (pe_lock (pe_dc (own := [("column", 7)]) rfl nd (pi_keys (pe_fldK (K := K) (pv 0) (by rfl) (by rfl))) (blkOk_by (N := ["self", "row", "coefficients", "equal", "bound", "place", "entries", "column", "at", "amount", "entry"]) (sc := defScope s_Tab_add_row) (by decide +kernel)) (fun _ _ _ _ _ => (pg_name (i := 7) nd rfl (Or.inl rfl))) (fun _ _ _ _ _ => pts_nil) (fun _ _ _ _ _ => (pv 7)) (fun _ _ _ _ _ => pe_int))) pa_nil)) (by rfl))
      (pss_cons (ps_for (passes_of rfl) rfl (pi_enumTK (K := K) rfl Z.enum_ (pa_cons (pv 2) pa_nil) (by rfl)) (pg_tupK (K := K) (n := 2) rfl (pgs_cons (pg_name (i := 8) nd rfl (Or.inl rfl)) (pgs_cons (pg_name (i := 9) nd rfl (Or.inl rfl)) pgs_nil)) (by rfl)) (pss_one (ps_if (pt_cmp (pc_din (by exact hu) (pv 8) (pe_fldK (K := K) (pv 0) (by rfl) (by rfl)))) (pss_one (ps_daug (by exact hu) (pv 6) (pv 8) (pe_op op_mulW (pv 9) (pe_fldK (K := K) (pv 0) (by rfl) (by rfl))) in_add (fun _ _ _ => rfl))) (pss_one ps_never))))
      (pss_cons (ps_dput (by exact hu) (pe_fldK (K := K) (pv 0) (by rfl) (by rfl)) (pv 5) (pv 6) rfl)
      (pss_cons (ps_expr (pe_bm PySem.F.plainAttrs_list PySem.F.slot_list_append PySem.F.type_list_append mt_append (pe_fldK (K := K) (pv 0) (by rfl) (by rfl)) (pa_cons (pe_tup (pa_cons (pe_dn D.whole (hr.mono (by decide)) rfl passL (pa_cons (pv 4) pa_nil)) (pa_cons (pe_ifExp (pt_val (pv 3)) (pe_dn D.whole (hr.mono (by decide)) rfl passL (pa_cons (pv 4) pa_nil)) pe_non) pa_nil))) pa_nil)))
      (pss_one (ps_ret (pv 5)))))))), ?_⟩
    refine ⟨_, rfl, ra, _, rfl, hra, rfl, _, _, rfl, _, _, rfl, _, _, rfl, rfl, ?_⟩
    refine ⟨_, rfl, _, C, _, _, _, rfl, ins, c.cl, c.nS, rfl, _, _, rfl, .inl (SqL.of g5), L.he, _, g3, True.intro, fun od => ?_⟩
    have hp : upd H L.he (.frz od (.dK kh)) L.p = some (.ins C L.dx (flds T.many L.sp L.he L.tb T.unit L.hi)) := by rw [upd_ne (ne_of ins g3 (by intro z; cases z))]; exact ins
    refine ⟨_, rfl, _, C, _, _, _, rfl, hp, c.cl, c.nH, rfl, L.he, od, rfl, .inl ⟨kh, upd_same, fun en hen => ?_⟩⟩
    have nen : en ≠ L.he := fun z => by rw [z, upd_same] at hen; cases hen
    have hen' : H en = none := by rwa [upd_ne nen] at hen
    refine dc_by (J := Itk L.he od kh) (n := kh.length) (fun i H' => Same (upd H L.he (.frz od (.dK kh))) H' ∧ H' en = some (.dK (rowK (T.cols.take i) fun _ => 0))) ?_ ?_ ?_ ?_ ?_
    · exact ⟨same_new hen, by rw [upd_same, List.take_zero]; rfl⟩
    · exact fun i H' hi hh => ⟨hh.1 L.he _ upd_same, hi⟩
    · exact fun H' hh => ⟨hh.1 L.he _ upd_same, Nat.le_refl _⟩
    · rintro i H' x H2 hi ⟨s1, e1⟩ ⟨rfl, k, v, hk, rfl⟩
      obtain ⟨cc, hcc, rfl⟩ : ∃ cc, T.cols[i]? = some cc ∧ k = .inl cc := by
        have hn : i < T.cols.length := by rw [← p3.length]; exact hi
        obtain ⟨v', ev, _⟩ := p3.nth (List.getElem?_eq_getElem hn)
        rw [ev] at hk
        cases hk
        exact ⟨_, List.getElem?_eq_getElem hn, rfl⟩
      refine ⟨rfl, ?_⟩
      refine iteT (B := Same (upd H L.he (.frz od (.dK kh))) H2 ∧ H2 en = some (.dK (rowK (T.cols.take (i + 1)) fun _ => 0))) ?_
      refine ⟨_, rfl, _, .inl cc, rfl, e1, ?_, same_put s1 hen, ?_⟩
      · rw [rowK_length]
        exact lt20 (Nat.le_trans (List.length_take_le' ..) ok.cl)
      · rw [upd_same, take_snoc hcc, ← row_new (g := fun _ => 0) (nodup_take ok.nc hcc)]
    · rintro H' ⟨s1, e1⟩
      rw [p3.length, take_all] at e1
      refine ⟨s1 L.he _ upd_same, _, _, rfl, ?_⟩
      obtain ⟨H1, hH1⟩ : ∃ H1, upd H' L.he (.dK kh) = H1 := ⟨_, rfl⟩
      have s2 : Same H H1 := by rw [← hH1]; exact same_upd2 g3 s1
      have e2 : H1 en = some (.dK (rowK T.cols fun _ => 0)) := by rw [← hH1, upd_ne nen]; exact e1
      rw [hH1, List.length_map, Paired.length p5]
      clear hH1 s1 e1
      refine ⟨_, rfl, ca, _, rfl, same_tup s2 hca, for_by (J := Iet K ca) (n := cs.length) (fun i σ H' => ∃ x y, σ = [some (.ref L.p), some (.ref ra), some (.ref ca), some (.bl eq), some (.int b), some (.int T.spans.length), some (.ref en), none, x, y, none] ∧ Same H H' ∧
        H' en = some (.dK (rowK T.cols fun c => if c < i then cs.getD c.toNat 0 * T.unit else 0))) ?_ ?_ ?_ ?_ ?_⟩
      · refine ⟨none, none, rfl, s2, ?_⟩
        rw [e2]
        refine congrArg (fun l => some (HO.dK l)) (rowK_congr fun k hk => ?_)
        have := (ok.mem k).mp (.inl hk)
        rw [if_neg (by omega)]
      · rintro i σ H' hi ⟨x, y, rfl, s3, _⟩
        exact ⟨_, .int (cs[i]'hi), same_tup s3 hca, by rw [List.getElem?_map, List.getElem?_eq_getElem hi]; rfl⟩
      · rintro σ H' ⟨x, y, rfl, s3, _⟩
        exact ⟨_, same_tup s3 hca, by rw [List.length_map]; exact Nat.le_refl _⟩
      · rintro i σ H' x H2 hi ⟨x0, y0, rfl, s3, e3⟩ ⟨Tp, v, rfl, hTp, rfl, hv⟩
        have hv := hv _ (same_tup s3 hca)
        rw [List.getElem?_map, List.getElem?_eq_getElem hi] at hv
        obtain rfl : V.int (cs[i]'hi) = v := Option.some.inj hv
        have s4 := s3.trans (same_new (o := .tup [.int (i : Nat), .int (cs[i]'hi)]) hTp)
        have e4 := (same_new (o := .tup [.int (i : Nat), .int (cs[i]'hi)]) hTp) _ _ e3
        have ins4 := s4 _ _ ins
        have im : ((i : Nat) : Int) ∈ T.cols := by rw [hcols]; exact idx_mem.mpr (by omega)
        refine ⟨Tp, _, rfl, SqT.of upd_same, rfl, _, _, rfl, _, _, rfl, rfl, ?_⟩
        refine ⟨_, rfl, _, rfl, _, C, _, _, _, rfl, ins4, c.cl, c.nH, rfl, L.he, _, rfl, DGet.k (k := (.inl (i : Nat) : Key)) (s4 _ _ g3), _, rfl, ?_⟩
        rw [p3.isSome, decide_eq_true im]
        refine iteT ⟨_, rfl, _, rfl, en, _, rfl, rowK_get im ▸ DGet.k (k := (.inl (i : Nat) : Key)) e4, _, rfl, _, rfl, _, C, _, _, _, rfl, ins4, c.cl, c.nU, rfl, _, _, rfl, rfl, sm_mul (b1500 (hcs _ (List.getElem_mem hi))) (b1500 ok.ub), _, _, rfl, rfl, _, DPut.k (k := (.inl (i : Nat) : Key)) e4 (by rw [rowK_length]; exact lt20 ok.cl), ?_⟩
        refine ⟨_, _, rfl, same_put s4 hen', ?_⟩
        rw [upd_same, row_put im]
        refine congrArg (fun l => some (HO.dK l)) (rowK_congr fun k hk => ?_)
        have hk0 := (ok.mem k).mp (.inl hk)
        by_cases ek : k = (i : Nat)
        · subst ek
          have e0 : ((i : Nat) : Int).toNat = i := by omega
          show (if ((i : Nat) : Int) = (i : Nat) then ((if ((i : Nat) : Int) < (i : Nat) then cs.getD ((i : Nat) : Int).toNat 0 * T.unit else 0) + cs[i]'hi * T.unit) else _) = (if ((i : Nat) : Int) < ((i + 1 : Nat) : Int) then cs.getD ((i : Nat) : Int).toNat 0 * T.unit else 0)
          rw [if_pos rfl, if_neg (by omega : ¬ ((i : Nat) : Int) < (i : Nat)), if_pos (by omega : ((i : Nat) : Int) < ((i + 1 : Nat) : Int)), e0, List.getD_eq_getElem?_getD, List.getElem?_eq_getElem hi]
          show 0 + cs[i]'hi * T.unit = cs[i]'hi * T.unit
          rw [Int.zero_add]
        · rw [if_neg ek]
          by_cases e5 : k < (i : Nat)
          · rw [if_pos e5, if_pos (by omega)]
          · rw [if_neg e5, if_neg (by omega)]
      · rintro σ H3 ⟨x, y, rfl, s3, e3⟩
        have e3' : H3 en = some (.dK (rowK T.cols fun c => cs.getD c.toNat 0 * T.unit)) := by
          rw [e3]
          refine congrArg (fun l => some (HO.dK l)) (rowK_congr fun k hk => ?_)
          rw [hcols] at hk
          rw [if_pos (idx_mem.mp hk).2]
        have ins3 := s3 _ _ ins
        have nP : (T.spans.length : Int) ∉ T.basis := fun hm => by have := (ok.mem _).mp (.inr hm); omega
        refine ⟨_, rfl, _, rfl, _, C, _, _, _, rfl, ins3, c.cl, c.nT, rfl, _, rfl, L.tb, _, rfl, DPut.k (k := (.inl (T.spans.length : Int) : Key)) (s3 _ _ g4) (by rw [p4.length]; exact lt20 ok.bl), ?_⟩
        obtain ⟨H4, hH4⟩ : ∃ H4, upd H3 L.tb (.dK (putK kt (.inl (T.spans.length : Int) : Key) (.ref en))) = H4 := ⟨_, rfl⟩
        have o4 : ∀ b, b ≠ L.tb → H4 b = H3 b := fun b n => by rw [← hH4, upd_ne n]
        have tb4 : H4 L.tb = some (.dK (putK kt (.inl (T.spans.length : Int) : Key) (.ref en))) := by rw [← hH4, upd_same]
        show tSeq _ _ _ _ _
        rw [hH4]
        clear hH4
        have npt : L.p ≠ L.tb := ne_of ins g4 (by intro z; cases z)
        have nst : L.sp ≠ L.tb := ne_of g5 g4 (by intro z; cases z)
        have nit : L.hi ≠ L.tb := ne_of g6 g4 (by intro z; cases z)
        have net : en ≠ L.tb := (ne_of_none g4 hen').symm
        have k4 : Keep [L.tb] H3 H4 := fun b o eb nb => by
          have n : b ≠ L.tb := fun z => nb (by rw [z]; exact List.mem_cons_self)
          rw [o4 b n]
          exact eb
        have w4 : ∀ b ∈ [L.tb], Wr H3 b := fun b hb => by
          rw [List.mem_singleton.mp hb]
          exact .inr (.inr ⟨_, s3 _ _ g4⟩)
        have ins4 : H4 L.p = some (.ins C L.dx (flds T.many L.sp L.he L.tb T.unit L.hi)) := by rw [o4 _ npt]; exact ins3
        have sp4 : H4 L.sp = some (.lst (ss.map V.ref)) := by rw [o4 _ nst]; exact s3 _ _ g5
        have he4 : H4 L.he = some (.dK kh) := by rw [o4 _ t.n2]; exact s3 _ _ g3
        have hi4 : H4 L.hi = some (.lst hx) := by rw [o4 _ nit]; exact s3 _ _ g6
        have en4 : H4 en = some (.dK (rowK T.cols fun c => cs.getD c.toNat 0 * T.unit)) := by rw [o4 _ net]; exact e3'
        have ps4 : Paired (EndsA K H4) ss T.spans := keep_spans k4 w4 (spans_same s3 p5)
        have ph4 := keep_held k4 w4 (held_same s3 p3)
        have pt4 : PD (RowR H4 (fun a => L.rows a ∨ a = en) T.cols) kt T.basis T.E := (rows_same s3 p4).imp fun v x hh => by
          obtain ⟨a, ea, ra, ka⟩ := hh
          exact ⟨a, ea, .inl ra, k4 _ _ ka (fun z => t.n4 (by rw [← List.mem_singleton.mp z]; exact ra))⟩
        have pt5 : PD (RowR H4 (fun a => L.rows a ∨ a = en) T.cols) (putK kt (.inl (T.spans.length : Int) : Key) (.ref en)) (T.basis ++ [(T.spans.length : Int)]) (addT T cs eq b).E :=
          (pt4.new nP (v := .ref en) (x := fun c => cs.getD c.toNat 0 * T.unit) ⟨en, rfl, .inr rfl, en4⟩).congr fun o _ => rfl
        -- the end, wherever the two ends stand
        have fin : ∀ (H5 : Hp) (ea : Addr), Same H4 H5 → EndsA K H5 ea (rowEnds eq b) → Q (.int T.spans.length) (upd H5 L.sp (.lst (ss.map V.ref ++ [.ref ea]))) := fun H5 ea s5 hea => by
          have n1 : L.p ≠ L.sp := ne_of ins g5 (by intro z; cases z)
          have n2 : L.he ≠ L.sp := ne_of g3 g5 (by intro z; cases z)
          have kl : Keep [L.sp] H5 (upd H5 L.sp (.lst (ss.map V.ref ++ [.ref ea]))) := fun b o eb nb => by
            have n : b ≠ L.sp := fun z => nb (by rw [z]; exact List.mem_cons_self)
            rw [upd_ne n]
            exact eb
          have wl : ∀ b ∈ [L.sp], Wr H5 b := fun b hb => by
            rw [List.mem_singleton.mp hb]
            exact .inr (.inl ⟨_, s5 _ _ sp4⟩)
          refine h { L with rows := fun a => L.rows a ∨ a = en } _ (fun b o eb nb => ?_) ⟨rfl, fun b hb => .inl hb, fun b hb => ?_⟩ ⟨?_, ⟨ss ++ [ea], ?_, ?_⟩, ⟨kh, ?_, keep_held kl wl (held_same s5 ph4)⟩, ⟨_, ?_, (rows_same s5 pt5).imp fun v x hh => ?_⟩, ⟨hx, ?_, p6⟩, t.n1, t.n2, ?_, ?_⟩
          · have m1 : b ≠ L.sp := fun z => nb (by rw [z]; simp [Lay.fp])
            have m2 : b ≠ L.tb := fun z => nb (by rw [z]; simp [Lay.fp])
            rw [upd_ne m1]
            exact s5 _ _ (by rw [o4 b m2]; exact s3 _ _ eb)
          · rcases hb with hb | hb
            · exact .inl hb
            · rw [hb]
              exact .inr hen'
          · rw [upd_ne n1]
            exact s5 _ _ ins4
          · rw [upd_same, List.map_append]
            rfl
          · exact Paired.snoc (keep_spans kl wl (spans_same s5 ps4)) (keep_ends kl wl hea)
          · rw [upd_ne n2]
            exact s5 _ _ he4
          · rw [upd_ne nst.symm]
            exact s5 _ _ tb4
          · obtain ⟨a, ea', ra, ka⟩ := hh
            exact ⟨a, ea', ra, kl _ _ ka (fun z => by rw [List.mem_singleton.mp z, s5 _ _ sp4] at ka; cases ka)⟩
          · rw [upd_ne t.n1.symm]
            exact s5 _ _ hi4
          · rintro (hh | hh)
            · exact t.n3 hh
            · exact nen hh.symm
          · rintro (hh | hh)
            · exact t.n4 hh
            · exact net hh.symm
        have lenS : (ss.map V.ref).length < sizeLine := by
          rw [List.length_map, Paired.length p5]
          exact lt20 ok.few
        refine ⟨_, rfl, _, C, _, _, _, rfl, ins4, c.cl, c.nS, rfl, .inl ⟨rfl, _, SqL.of sp4⟩, _, rfl, b, rfl, fun w1 hw1 => ⟨_, rfl, _, rfl, ?_⟩⟩
        cases eq with
        | true =>
          refine iteT ⟨_, rfl, b, rfl, fun w2 hw2 => ⟨(by show 2 ≤ sizeLine; decide), fun ta hta => ?_⟩⟩
          have s6 := ((same_new (o := .tup [.int b, .int 1]) hw1).trans (same_new (o := .tup [.int b, .int 1]) hw2)).trans (same_new (o := .tup [.ref w1, .ref w2]) hta)
          exact ⟨L.sp, _, .ref ta, rfl, rfl, s6 _ _ sp4, lenS, _, rfl, fin _ ta s6 ⟨_, _, SqT.of upd_same, ⟨w1, rfl, same_tup ((same_new hw2).trans (same_new hta)) (SqT.of upd_same)⟩, ⟨w2, rfl, same_tup (same_new hta) (SqT.of upd_same)⟩⟩⟩
        | false =>
          refine iteF ⟨(by show 2 ≤ sizeLine; decide), fun ta hta => ?_⟩
          have s6 := (same_new (o := .tup [.int b, .int 1]) hw1).trans (same_new (o := .tup [.ref w1, .non]) hta)
          exact ⟨L.sp, _, .ref ta, rfl, rfl, s6 _ _ sp4, lenS, _, rfl, fin _ ta s6 ⟨_, _, SqT.of upd_same, ⟨w1, rfl, same_tup (same_new hta) (SqT.of upd_same)⟩, rfl⟩⟩
end
end K24
/-! K24I: Tableau(rows, box). -/
namespace K24
open PySem PySem.Spec PyProof.Rows L2
abbrev Row := List Int × Bool × Int
def boxEnds (b : Int × Int) : Ends2 := (some (b.1, 1), some (b.2, 1))
def baseT (bs : List (Int × Int)) : Tab where
  many := bs.length
  spans := bs.map boxEnds
  cols := idx bs.length
  hv := fun c => betw (0, 1) ((bs.map boxEnds).getD c.toNat (none, none))
  basis := []
  E := fun _ _ => 0
  unit := 1
  log := 0
def rowsT (T : Tab) (rs : List Row) : Tab := rs.foldl (fun T r => addT T r.1 r.2.1 r.2.2) T
def initT (bs : List (Int × Int)) (rs : List Row) : Tab := rowsT (baseT bs) rs
theorem baseT_ok {bs : List (Int × Int)} (h : bs.length ≤ 20) : (baseT bs).Ok where
  nc := idx_nodup _
  nb := List.nodup_nil
  dj := fun k hk => nomatch hk
  pos := by show (0 : Int) < 1; decide
  mem := fun k => by
    show k ∈ idx bs.length ∨ k ∈ [] ↔ 0 ≤ k ∧ k < ((bs.map boxEnds).length : Nat)
    rw [idx_mem, List.length_map]
    simp
  few := by show (bs.map boxEnds).length ≤ 20; rw [List.length_map]; exact h
  eb := fun k hk => nomatch hk
  ub := by show (1 : Int).natAbs < 2 ^ 700; exact Nat.one_lt_two_pow (by decide)
theorem addT_ok {T : Tab} {cs : List Int} {eq : Bool} {b : Int} (o : T.Ok) (hu : T.unit = 1) (hc : ∀ x ∈ cs, x.natAbs < 2 ^ 700) (few : T.spans.length < 20) : (addT T cs eq b).Ok where
  nc := o.nc
  nb := by
    show (T.basis ++ [(T.spans.length : Int)]).Nodup
    rw [List.nodup_append]
    refine ⟨o.nb, List.nodup_cons.mpr ⟨List.not_mem_nil, List.nodup_nil⟩, fun a ha c hc e => ?_⟩
    have := (o.mem a).mp (.inr ha)
    rw [e, List.mem_singleton.mp hc] at this
    omega
  dj := fun k hk hc => by
    rcases List.mem_append.mp (show k ∈ T.basis ++ [(T.spans.length : Int)] from hk) with h | h
    · exact o.dj k h hc
    · have := (o.mem k).mp (.inl hc)
      rw [List.mem_singleton.mp h] at this
      omega
  pos := o.pos
  mem := fun k => by
    show k ∈ T.cols ∨ k ∈ T.basis ++ [(T.spans.length : Int)] ↔ 0 ≤ k ∧ k < ((T.spans ++ [rowEnds eq b]).length : Nat)
    rw [List.mem_append, List.mem_singleton, ← or_assoc, o.mem k, List.length_append]
    simp only [List.length_cons, List.length_nil]
    omega
  few := by
    show (T.spans ++ [rowEnds eq b]).length ≤ 20
    rw [List.length_append]
    show T.spans.length + 1 ≤ 20
    omega
  eb := fun k hk c hcm => by
    show ((if k = (T.spans.length : Int) then (fun c : Int => cs.getD c.toNat 0 * T.unit) else T.E k) c).natAbs < 2 ^ 700
    by_cases e : k = (T.spans.length : Int)
    · rw [if_pos e, hu, Int.mul_one, List.getD_eq_getElem?_getD]
      cases e : cs[c.toNat]? with
      | none => exact Nat.lt_of_lt_of_le (by decide : (0 : Nat) < 1) Nat.one_le_two_pow
      | some x => exact hc x (List.mem_of_getElem? e)
    · rw [if_neg e]
      exact o.eb k ((List.mem_append.mp hk).resolve_right fun z => e (List.mem_singleton.mp z)) c hcm
  ub := o.ub
theorem rowsT_snoc (T : Tab) (rs : List Row) (r : Row) : rowsT T (rs ++ [r]) = addT (rowsT T rs) r.1 r.2.1 r.2.2 := by
  unfold rowsT
  rw [List.foldl_append]
  rfl
theorem rowsT_facts {T : Tab} (o : T.Ok) (hu : T.unit = 1) : ∀ (n : Nat) (rs : List Row), rs.length = n → (∀ r ∈ rs, ∀ x ∈ r.1, x.natAbs < 2 ^ 700) → T.spans.length + rs.length ≤ 20 → (rowsT T rs).Ok ∧ (rowsT T rs).unit = 1 ∧ (rowsT T rs).cols = T.cols ∧ (rowsT T rs).spans.length = T.spans.length + rs.length
  | 0, [], _, _, _ => ⟨o, hu, rfl, rfl⟩
  | n + 1, rs, hn, hr, hl => by
    obtain ⟨r0, r, rfl⟩ : ∃ r0 r, rs = r0 ++ [r] := ⟨rs.dropLast, rs.getLast (by intro z; rw [z] at hn; cases hn), (List.dropLast_concat_getLast _).symm⟩
    rw [List.length_append, List.length_singleton] at hn hl
    obtain ⟨h1, h2, h3, h4⟩ := rowsT_facts o hu n r0 (by omega) (fun x hx => hr x (List.mem_append_left _ hx)) (by omega)
    rw [rowsT_snoc]
    refine ⟨addT_ok h1 h2 (hr r (by simp)) (by omega), h2, h3, ?_⟩
    show ((rowsT T r0).spans ++ [_]).length = _
    rw [List.length_append, h4, List.length_append]
    rfl
theorem keep_one (H : Hp) (d : Addr) (u : HO) : Keep [d] H (upd H d u) := fun b o e nb => by
  have n : b ≠ d := fun z => nb (by rw [z]; exact List.mem_cons_self)
  rw [upd_ne n]
  exact e
theorem wr_lst {H : Hp} {d : Addr} {xs : List V} (e : H d = some (.lst xs)) : ∀ b ∈ [d], Wr H b := fun b hb => by
  rw [List.mem_singleton.mp hb]
  exact .inr (.inl ⟨_, e⟩)
theorem wr_dK {H : Hp} {d : Addr} {xs : List (Key × V)} (e : H d = some (.dK xs)) : ∀ b ∈ [d], Wr H b := fun b hb => by
  rw [List.mem_singleton.mp hb]
  exact .inr (.inr ⟨_, e⟩)
theorem paired_nth {α β : Type} {R : α → β → Prop} {l : List α} {m : List β} (h : Paired R l m) {i : Nat} {a : α} (ha : l[i]? = some a) : ∃ b, m[i]? = some b ∧ R a b := by
  induction h generalizing i with
  | nil => simp at ha
  | @cons x y l1 l2 r t ih =>
    cases i with
    | zero =>
      obtain rfl : x = a := by simpa using ha
      exact ⟨y, rfl, r⟩
    | succ i => exact ih (i := i) (by simpa using ha)
theorem paired_nth' {α β : Type} {R : α → β → Prop} {l : List α} {m : List β} (h : Paired R l m) {i : Nat} {b : β} (hb : m[i]? = some b) : ∃ a, l[i]? = some a ∧ R a b := by
  induction h generalizing i with
  | nil => simp at hb
  | @cons x y l1 l2 r t ih =>
    cases i with
    | zero =>
      obtain rfl : y = b := by simpa using hb
      exact ⟨x, rfl, r⟩
    | succ i => exact ih (i := i) (by simpa using hb)
section
variable {P : Program} {w : World} {K : PySem.W.Frag} {mg : Str → Option Value} {base : Heap} {f : Addr} {fd : FuncData} {cI cR C z : Addr}
structure DIn (P : Program) (w : World) (K : PySem.W.Frag) (mg : Str → Option Value) (base : Heap) (C : Addr) : Prop where
  whole : Dn P w K mg base "whole" 1 ["number"] spWhole
  between_ends : Dn P w K mg base "between_ends" 2 ["value", "ends"] (spBetw K)
  add_row : Dm P w K mg base C "add_row" 2 ["self", "row"] (spAdd K C)
structure BoxAt (K : PySem.W.Frag) (H : Hp) (ba : Addr) (bs : List (Int × Int)) : Prop where
  ex : ∃ bas : List Addr, SqT K H ba (bas.map V.ref) ∧ Paired (fun a b => SqT K H a [.int b.1, .int b.2]) bas bs
structure RowsAt (K : PySem.W.Frag) (H : Hp) (ra : Addr) (rs : List Row) : Prop where
  ex : ∃ ras : List Addr, SqT K H ra (ras.map V.ref) ∧ Paired (fun a r => RowAt K H a r.1 r.2.1 r.2.2) ras rs
structure InitOk (bs : List (Int × Int)) (rs : List Row) : Prop where
  few : bs.length + rs.length ≤ 20
  bb : ∀ b ∈ bs, b.1.natAbs < 2 ^ 700 ∧ b.2.natAbs < 2 ^ 700
  rb : ∀ r ∈ rs, r.1.length = bs.length ∧ ∀ x ∈ r.1, x.natAbs < 2 ^ 700
def spInit (K : PySem.W.Frag) (C : Addr) : Sp := fun vs H Q _ => ∃ p ra ba dx bs rs, vs = [.ref p, .ref ra, .ref ba] ∧ H p = some (.ins C dx []) ∧ BoxAt K H ba bs ∧ RowsAt K H ra rs ∧ InitOk bs rs ∧
  ∀ L H', L.p = p → Keep [p] H H' → (∀ b ∈ L.fp, b = p ∨ H b = none) → (∀ b, L.rows b → H b = none) → TabAt K C H' L (initT bs rs) → Q .non H'
theorem ok_init (F : Fun K "__init__" "Tableau.__init__" s_Tab_init f fd) (c : TC K C) (Z : Bz mg) (Z0 : ZE K mg z) (D : DIn P w K mg base C) : FnOk P w K mg base (L2.CX P w) 3 f fd ["self", "rows", "box"] (spInit K C) := by
  refine F.okX sc_Tab_init (fun vs H Q E h => ?_) (fun cdv A outer s H vs Q E hr h => ?_)
  · obtain ⟨p, ra, ba, dx, bs, rs, rfl, _⟩ := h
    rfl
  · obtain ⟨p, ra, ba, dx, bs, rs, rfl, ins, ⟨bas, hba, hbp⟩, ⟨ras, hra, hrp⟩, io, h⟩ := h
    have hu := hu_of hr
    have nd := sc_Tab_init.nd
    refine ⟨_, (pss_cons (ps_fld (pv 0) (pe_callB call_len_seq rfl Z.len_ PySem.boot_len (pa_cons (pv 2) pa_nil)) rfl)
      (pss_cons (ps_fld (pv 0) (pe_lc (own := [("low", 3), ("high", 4)]) rfl nd (pi_tup (pv 2)) (blkOk_by (N := ["self", "rows", "box", "low", "high", "at", "ends", "row"]) (sc := defScope s_Tab_init) (by decide +kernel)) (fun _ _ _ _ _ => (pg_tupK (K := K) (n := 2) rfl (pgs_cons (pg_name (i := 3) nd rfl (Or.inl rfl)) (pgs_cons (pg_name (i := 4) nd rfl (Or.inl rfl)) pgs_nil)) (by rfl))) (fun _ _ _ _ _ => pts_nil) (fun _ _ _ _ _ => (pe_tup (pa_cons (pe_dn D.whole (hr.mono (by decide)) rfl passL (pa_cons (pv 3) pa_nil)) (pa_cons (pe_dn D.whole (hr.mono (by decide)) rfl passL (pa_cons (pv 4) pa_nil)) pa_nil))))) rfl)
      (pss_cons (ps_fld (pv 0) (pe_dc (own := [("at", 5), ("ends", 6)]) rfl nd (pi_enum rfl Z.enum_ (pa_cons (pe_fldK (K := K) (pv 0) (by rfl) (by rfl)) pa_nil)) (blkOk_by (N := ["self", "rows", "box", "low", "high", "at", "ends", "row"]) (sc := defScope s_Tab_init) (by decide +kernel)) (fun _ _ _ _ _ => (pg_tupK (K := K) (n := 2) rfl (pgs_cons (pg_name (i := 5) nd rfl (Or.inl rfl)) (pgs_cons (pg_name (i := 6) nd rfl (Or.inl rfl)) pgs_nil)) (by rfl))) (fun _ _ _ _ _ => pts_nil) (fun _ _ _ _ _ => (pv 5)) (fun _ _ _ _ _ => (pe_dn D.between_ends (hr.mono (by decide)) rfl passL (pa_cons (pe_glob (u := .ref z) (v := .ref z) (by rfl) Z0.mg_ rfl) (pa_cons (pv 6) pa_nil))))) rfl)
      (pss_cons (ps_fld (pv 0) pe_dnewK rfl)
      (pss_cons (ps_fld (pv 0) pe_int rfl)
      (pss_cons (ps_fld (pv 0) (pe_lst pa_nil) rfl)
      (pss_one (ps_for (passes_of rfl) rfl (pi_tup (pv 1)) (pg_name (i := 7) nd rfl (Or.inl rfl)) (pss_one (ps_expr (pe_dm (pv 0) D.add_row (hr.mono (by decide)) passL (pa_cons (pv 7) pa_nil)))))))))))), ?_⟩
    have lt20 : ∀ {n : Nat}, n ≤ 20 → n < sizeLine := fun h => Nat.lt_of_le_of_lt h (by decide)
    have hbl := Paired.length hbp
    have hrl := Paired.length hrp
    have few := io.few
    have wp : ∀ b ∈ [p], Wr H b := fun b hb => by
      rw [List.mem_singleton.mp hb]
      exact .inl ⟨_, _, _, ins⟩
    have kp : ∀ {H1 : Hp} (u : HO), Keep [p] H H1 → Keep [p] H (upd H1 p u) := fun u k b o eb nb => by
      have n : b ≠ p := fun z => nb (by rw [z]; exact List.mem_cons_self)
      rw [upd_ne n]
      exact k b o eb nb
    have ks : ∀ {H1 H2 : Hp}, Keep [p] H H1 → Same H1 H2 → Keep [p] H H2 := fun k s b o eb nb => s _ _ (k b o eb nb)
    have kf : ∀ {H1 : Hp} {d : Addr}, Keep [p] H H1 → H1 p ≠ none → H1 d = none → H d = none ∧ d ≠ p := fun {H1 d} k np hd => by
      have n : d ≠ p := fun z => np (by rw [← z]; exact hd)
      refine ⟨?_, n⟩
      cases e : H d with
      | none => rfl
      | some o =>
        have := k d o e (fun z => n (List.mem_singleton.mp z))
        rw [hd] at this
        cases this
    -- self.many
    refine ⟨_, rfl, ba, _, rfl, .inr hba, _, rfl, p, C, dx, [], rfl, ins, c.cl, c.nM, (by show 0 < 1000; decide), ?_⟩
    rw [List.length_map, hbl]
    obtain ⟨H1, hH1⟩ : ∃ H1, upd H p (.ins C dx (putF ("many" : Str) (.int bs.length) [])) = H1 := ⟨_, rfl⟩
    have ins1 : H1 p = some (.ins C dx [("many", .int bs.length)]) := by rw [← hH1, upd_same]; rfl
    have k1 : Keep [p] H H1 := by rw [← hH1]; exact kp _ (Keep.refl _ _)
    show tSeq _ _ _ _ _
    rw [hH1]
    clear hH1
    -- self.spans
    have hba1 := keep_tup k1 wp hba
    refine ⟨_, rfl, ba, rfl, ⟨_, hba1⟩, fun D1 hD1 => lc_tup (K := K) (xs := bas.map V.ref) (fun i H' => Same H1 H' ∧ ∃ ss : List Addr, H' D1 = some (.lst (ss.map V.ref)) ∧ Paired (EndsA K H') ss ((bs.take i).map boxEnds)) ?_ ?_ ?_ ?_⟩
    · exact ⟨same_new hD1, [], upd_same, by rw [List.take_zero]; exact .nil⟩
    · exact fun i H' _ hh => same_tup hh.1 hba1
    · rintro i x H' hx ⟨s1, ss, e1, p1⟩
      rw [List.getElem?_map] at hx
      obtain ⟨a, ha, rfl⟩ : ∃ a, bas[i]? = some a ∧ V.ref a = x := by
        cases e : bas[i]? with
        | none => rw [e] at hx; cases hx
        | some a => rw [e] at hx; exact ⟨a, rfl, Option.some.inj hx⟩
      obtain ⟨b, hb, hab⟩ := paired_nth hbp ha
      have hab1 := same_tup s1 (keep_tup k1 wp hab)
      refine ⟨a, _, rfl, hab1, rfl, _, _, rfl, _, _, rfl, rfl, rfl, ?_⟩
      refine iteT (B := Same H1 H' ∧ ∃ ss : List Addr, H' D1 = some (.lst (ss.map V.ref)) ∧ Paired (EndsA K H') ss ((bs.take (i + 1)).map boxEnds)) ?_
      refine ⟨_, rfl, b.1, rfl, fun w1 hw1 => ⟨_, rfl, b.2, rfl, fun w2 hw2 => ⟨(by show 2 ≤ sizeLine; decide), fun ta hta => ?_⟩⟩⟩
      have s2 := ((same_new (o := .tup [.int b.1, .int 1]) hw1).trans (same_new (o := .tup [.int b.2, .int 1]) hw2)).trans (same_new (o := .tup [.ref w1, .ref w2]) hta)
      have e2 := s2 _ _ e1
      have pl : ss.length ≤ 20 := by
        rw [Paired.length p1, List.length_map]
        exact Nat.le_trans (List.length_take_le' ..) (by omega)
      refine ⟨_, e2, by rw [List.length_map]; exact lt20 pl, same_put (s1.trans s2) hD1, ss ++ [ta], by rw [upd_same, List.map_append]; rfl, ?_⟩
      rw [take_snoc hb, List.map_append]
      refine Paired.snoc (keep_spans (keep_one _ _ _) (wr_lst e2) (spans_same s2 p1)) (keep_ends (keep_one _ _ _) (wr_lst e2) ?_)
      exact ⟨_, _, SqT.of upd_same, ⟨w1, rfl, same_tup ((same_new hw2).trans (same_new hta)) (SqT.of upd_same)⟩, ⟨w2, rfl, same_tup (same_new hta) (SqT.of upd_same)⟩⟩
    · rintro H2 ⟨s1, ss, e1, p1⟩
      rw [List.length_map, hbl, take_all] at p1
      have ins2 := s1 _ _ ins1
      have k2 := ks k1 s1
      obtain ⟨nD1, pD1⟩ := kf k1 (by rw [ins1]; intro z; cases z) hD1
      refine ⟨_, rfl, p, C, dx, _, rfl, ins2, c.cl, c.nS, (by show 1 < 1000; decide), ?_⟩
      obtain ⟨H3, hH3⟩ : ∃ H3, upd H2 p (.ins C dx (putF ("spans" : Str) (.ref D1) [("many", .int bs.length)])) = H3 := ⟨_, rfl⟩
      have ins3 : H3 p = some (.ins C dx [("many", .int bs.length), ("spans", .ref D1)]) := by rw [← hH3, upd_same]; rfl
      have k3 : Keep [p] H H3 := by rw [← hH3]; exact kp _ k2
      have w2 : ∀ b ∈ [p], Wr H2 b := fun b hb => by rw [List.mem_singleton.mp hb]; exact .inl ⟨_, _, _, ins2⟩
      have sp3 : H3 D1 = some (.lst (ss.map V.ref)) := by rw [← hH3, upd_ne pD1]; exact e1
      have ps3 : Paired (EndsA K H3) ss (bs.map boxEnds) := by rw [← hH3]; exact keep_spans (keep_one _ _ _) w2 p1
      show tSeq _ _ _ _ _
      rw [hH3]
      clear hH3 w2
      have sl : ss.length = bs.length := by rw [Paired.length ps3, List.length_map]
      -- self.held
      refine ⟨_, rfl, p, C, dx, _, _, rfl, ins3, c.cl, c.nS, rfl, D1, _, rfl, SqL.of sp3, fun D2 hD2 => dc_by (J := Ite K D1) (n := bs.length) (fun i H' => Same H3 H' ∧ ∃ kvs, H' D2 = some (.dK kvs) ∧ PD (HeldR K H') kvs (idx i) (baseT bs).hv) ?_ ?_ ?_ ?_ ?_⟩
      · exact ⟨same_new hD2, [], upd_same, .nil⟩
      · rintro i H' hi ⟨s4, _⟩
        exact ⟨_, .ref (ss[i]'(by omega)), SqL.of (s4 _ _ sp3), by rw [List.getElem?_map, List.getElem?_eq_getElem (by omega)]; rfl⟩
      · rintro H' ⟨s4, _⟩
        exact ⟨_, SqL.of (s4 _ _ sp3), by rw [List.length_map]; omega⟩
      · rintro i H' x H4 hi ⟨s4, kvs, e4, p4⟩ ⟨Tp, v, rfl, hTp, rfl, hv⟩
        have hv := hv _ (SqL.of (s4 _ _ sp3))
        have hi' : i < ss.length := by omega
        rw [List.getElem?_map, List.getElem?_eq_getElem hi'] at hv
        obtain rfl : V.ref (ss[i]'hi') = v := Option.some.inj hv
        obtain ⟨ee, hee, es⟩ := paired_nth ps3 (List.getElem?_eq_getElem hi')
        have s5 := same_new (o := .tup [.int (i : Nat), .ref (ss[i]'hi')]) hTp
        have se : SmE ee := by
          rw [List.getElem?_map] at hee
          obtain ⟨b, hb, rfl⟩ : ∃ b, bs[i]? = some b ∧ boxEnds b = ee := by
            cases e : bs[i]? with
            | none => rw [e] at hee; cases hee
            | some b => rw [e] at hee; exact ⟨b, rfl, Option.some.inj hee⟩
          have := io.bb b (List.mem_of_getElem? hb)
          exact ⟨sm_ent this.1, sm_ent this.2⟩
        refine ⟨Tp, _, rfl, SqT.of upd_same, rfl, _, _, rfl, _, _, rfl, rfl, rfl, ?_⟩
        refine iteT (B := Same H3 (upd H' Tp (.tup [.int (i : Nat), .ref (ss[i]'hi')])) ∧ ∃ kvs, (upd H' Tp (.tup [.int (i : Nat), .ref (ss[i]'hi')])) D2 = some (.dK kvs) ∧ PD (HeldR K (upd H' Tp (.tup [.int (i : Nat), .ref (ss[i]'hi')]))) kvs (idx (i + 1)) (baseT bs).hv) ?_
        refine ⟨_, rfl, _, rfl, z, ss[i]'hi', (0, 1), ee, rfl, Z0.fr _, es.same (s4.trans s5), ⟨by show (0 : Int).natAbs < 2 ^ 1500; exact Nat.lt_of_lt_of_le (by decide : (0 : Nat) < 1) Nat.one_le_two_pow, by show (1 : Int).natAbs < 2 ^ 1500; exact Nat.one_lt_two_pow (by decide)⟩, se.1, se.2, fun r hr => ?_⟩
        have pl : kvs.length ≤ 20 := by
          rw [p4.length, idx_length]
          omega
        have e5 := s5 _ _ e4
        refine ⟨kvs, .inl (i : Nat), rfl, e5, lt20 pl, same_put (s4.trans s5) hD2, _, upd_same, ?_⟩
        have hni : ((i : Nat) : Int) ∉ idx i := fun hm => by have := (idx_mem.mp hm).2; omega
        have ev : (baseT bs).hv (i : Nat) = betw (0, 1) ee := by
          show betw (0, 1) ((bs.map boxEnds).getD ((i : Nat) : Int).toNat (none, none)) = _
          rw [show ((i : Nat) : Int).toNat = i from by omega, List.getD_eq_getElem?_getD, hee]
          rfl
        have p6 := (keep_held (keep_one _ D2 (.dK (putK kvs (.inl (i : Nat) : Key) (.ref r)))) (wr_dK e5) (held_same s5 p4)).new hni (v := .ref r) (x := betw (0, 1) ee) ⟨r, rfl, keep_tup (keep_one _ _ _) (wr_dK e5) hr⟩
        have ei : idx (i + 1) = idx i ++ [((i : Nat) : Int)] := by
          unfold idx
          rw [List.range_succ, List.map_append]
          rfl
        rw [ei]
        refine p6.congr fun k _ => ?_
        by_cases e : k = (i : Nat)
        · rw [if_pos e, e, ev]
        · rw [if_neg e]
      · rintro H4 ⟨s4, kh, e4, p4⟩
        have ins4 := s4 _ _ ins3
        have k4 := ks k3 s4
        have sp4 := s4 _ _ sp3
        obtain ⟨nD2, pD2⟩ := kf k3 (by rw [ins3]; intro z; cases z) hD2
        have n12 : D1 ≠ D2 := ne_of_none sp3 hD2
        refine ⟨_, rfl, p, C, dx, _, rfl, ins4, c.cl, c.nH, (by show 2 < 1000; decide), ?_⟩
        have w4 : ∀ b ∈ [p], Wr H4 b := fun b hb => by rw [List.mem_singleton.mp hb]; exact .inl ⟨_, _, _, ins4⟩
        obtain ⟨H5, hH5⟩ : ∃ H5, upd H4 p (.ins C dx (putF ("held" : Str) (.ref D2) [("many", .int bs.length), ("spans", .ref D1)])) = H5 := ⟨_, rfl⟩
        have ins5 : H5 p = some (.ins C dx [("many", .int bs.length), ("spans", .ref D1), ("held", .ref D2)]) := by rw [← hH5, upd_same]; rfl
        have k5 : Keep [p] H H5 := by rw [← hH5]; exact kp _ k4
        have sp5 : H5 D1 = some (.lst (ss.map V.ref)) := by rw [← hH5, upd_ne pD1]; exact sp4
        have he5 : H5 D2 = some (.dK kh) := by rw [← hH5, upd_ne pD2]; exact e4
        have ps5 : Paired (EndsA K H5) ss (bs.map boxEnds) := by rw [← hH5]; exact keep_spans (keep_one _ _ _) w4 (spans_same s4 ps3)
        have ph5 : PD (HeldR K H5) kh (idx bs.length) (baseT bs).hv := by rw [← hH5]; exact keep_held (keep_one _ _ _) w4 p4
        show tSeq _ _ _ _ _
        rw [hH5]
        clear hH5 w4
        -- self.table, self.unit, self.history
        refine fun td htd => ?_
        obtain ⟨nTd, pTd⟩ := kf k5 (by rw [ins5]; intro z; cases z) htd
        refine ⟨_, rfl, p, C, dx, _, rfl, (same_new htd) _ _ ins5, c.cl, c.nT, (by show 3 < 1000; decide), _, rfl, p, C, dx, _, rfl, upd_same, c.cl, c.nU, (by show 4 < 1000; decide), (by show 0 ≤ sizeLine; decide), fun hl hhl => ⟨_, rfl, p, C, dx, _, rfl, (same_new hhl) _ _ upd_same, c.cl, c.nI, (by show 5 < 1000; decide), ?_⟩⟩
        have pHl : hl ≠ p := fun z => by rw [z, upd_same] at hhl; cases hhl
        have tHl : hl ≠ td := fun z => by rw [z, upd_ne pTd, upd_ne pTd, upd_same] at hhl; cases hhl
        have hhl5 : H5 hl = none := by rwa [upd_ne pHl, upd_ne pHl, upd_ne tHl] at hhl
        obtain ⟨nHl, _⟩ := kf k5 (by rw [ins5]; intro z; cases z) hhl5
        obtain ⟨H6, hH6⟩ : ∃ H6, upd (upd (upd (upd (upd H5 td (.dK [])) p (.ins C dx (putF ("table" : Str) (.ref td) [("many", .int bs.length), ("spans", .ref D1), ("held", .ref D2)]))) p (.ins C dx (putF ("unit" : Str) (.int 1) (putF ("table" : Str) (.ref td) [("many", .int bs.length), ("spans", .ref D1), ("held", .ref D2)])))) hl (.lst [])) p (.ins C dx (putF ("history" : Str) (.ref hl) (putF ("unit" : Str) (.int 1) (putF ("table" : Str) (.ref td) [("many", .int bs.length), ("spans", .ref D1), ("held", .ref D2)])))) = H6 := ⟨_, rfl⟩
        have ins6 : H6 p = some (.ins C dx (flds bs.length D1 D2 td 1 hl)) := by rw [← hH6, upd_same]; rfl
        have o6 : ∀ b, b ≠ p → b ≠ td → b ≠ hl → H6 b = H5 b := fun b n1 n2 n3 => by rw [← hH6, upd_ne n1, upd_ne n3, upd_ne n1, upd_ne n1, upd_ne n2]
        have td6 : H6 td = some (.dK []) := by rw [← hH6, upd_ne pTd, upd_ne tHl.symm, upd_ne pTd, upd_ne pTd, upd_same]
        have hl6 : H6 hl = some (.lst []) := by rw [← hH6, upd_ne pHl, upd_same]
        rw [hH6]
        clear hH6
        have d1t : D1 ≠ td := ne_of_none sp5 htd
        have d2t : D2 ≠ td := ne_of_none he5 htd
        have d1h : D1 ≠ hl := ne_of_none sp5 hhl5
        have d2h : D2 ≠ hl := ne_of_none he5 hhl5
        have k56 : Keep [p] H5 H6 := fun b o eb nb => by
          have n1 : b ≠ p := fun z => nb (by rw [z]; exact List.mem_cons_self)
          rw [o6 b n1 (ne_of_none eb htd) (ne_of_none eb hhl5)]
          exact eb
        have w5 : ∀ b ∈ [p], Wr H5 b := fun b hb => by rw [List.mem_singleton.mp hb]; exact .inl ⟨_, _, _, ins5⟩
        have t6 : TabAt K C H6 ⟨p, dx, D1, D2, td, hl, fun _ => False⟩ (baseT bs) := ⟨ins6, ⟨ss, by rw [o6 _ pD1 d1t d1h]; exact sp5, keep_spans k56 w5 ps5⟩, ⟨kh, by rw [o6 _ pD2 d2t d2h]; exact he5, keep_held k56 w5 ph5⟩, ⟨[], td6, .nil⟩, ⟨[], hl6, rfl⟩, d1h, d2t, fun z => z, fun z => z⟩
        have k6 : Keep [p] H H6 := fun b o eb nb => k56 b o (k5 b o eb nb) nb
        have hra6 := keep_tup k6 wp hra
        -- the rows
        refine ⟨_, rfl, ra, rfl, ⟨_, hra6⟩, for_tup (K := K) (xs := ras.map V.ref) (fun i σ H' => ∃ (L : Lay) (x : Option V), σ = [some (.ref p), some (.ref ra), some (.ref ba), none, none, none, none, x] ∧ TabAt K C H' L (rowsT (baseT bs) (rs.take i)) ∧ L.p = p ∧ Keep [p] H H' ∧ (∀ b ∈ L.fp, b = p ∨ H b = none) ∧ ∀ b, L.rows b → H b = none)
          ⟨_, none, rfl, t6, rfl, k6, fun b hb => ?_, fun b hb => hb.elim⟩ ?_ ?_ ?_⟩
        · simp only [Lay.fp, List.mem_cons, List.not_mem_nil, or_false] at hb
          rcases hb with rfl | rfl | rfl | rfl | rfl
          · exact .inl rfl
          · exact .inr nD1
          · exact .inr nD2
          · exact .inr nTd
          · exact .inr nHl
        · rintro i σ H' _ ⟨L, x, rfl, t, _, k, _⟩
          exact keep_tup k wp hra
        · rintro i x σ H' hx ⟨L, x0, rfl, t, rfl, k, f1, f2⟩
          rw [List.getElem?_map] at hx
          obtain ⟨a, ha, rfl⟩ : ∃ a, ras[i]? = some a ∧ V.ref a = x := by
            cases e : ras[i]? with
            | none => rw [e] at hx; cases hx
            | some a => rw [e] at hx; exact ⟨a, rfl, Option.some.inj hx⟩
          obtain ⟨r, hr', hrow⟩ := paired_nth hrp ha
          have hrm := List.mem_of_getElem? hr'
          have hil : i < rs.length := (List.getElem?_eq_some_iff.mp hr').1
          obtain ⟨g1, g2, g3, g4⟩ := rowsT_facts (T := baseT bs) (baseT_ok (by omega)) rfl i (rs.take i) (by rw [List.length_take]; omega) (fun r hr => (io.rb r (List.mem_of_mem_take hr)).2) (by
            show (bs.map boxEnds).length + _ ≤ 20
            rw [List.length_map, List.length_take]
            omega)
          obtain ⟨ca, q1, q2⟩ := hrow.ex
          refine ⟨_, rfl, L.p, _, _, rfl, t.ins, rfl, _, rfl, L, _, a, r.1, r.2.1, r.2.2, rfl, t, g1, ⟨ca, keep_tup k wp q1, keep_tup k wp q2⟩, by rw [g3, (io.rb r hrm).1]; rfl, (io.rb r hrm).2, fun L' H2 k2 gr t2 => ?_⟩
          refine ⟨L', _, rfl, by rw [take_snoc hr', rowsT_snoc]; exact t2, gr.p, fun b o eb nb => k2 b o (k b o eb nb) (fun hb => ?_), fun b hb => ?_, fun b hb => ?_⟩
          · rcases f1 b hb with z | z
            · exact nb (by rw [z]; exact List.mem_cons_self)
            · rw [eb] at z; cases z
          · rcases gr.fp b hb with z | z
            · exact f1 b z
            · by_cases e : b = L.p
              · exact .inl e
              · refine .inr ?_
                cases e2 : H b with
                | none => rfl
                | some o =>
                  have := k b o e2 (fun z => e (List.mem_singleton.mp z))
                  rw [z] at this
                  cases this
          · rcases gr.rows b hb with z | z
            · exact f2 b z
            · cases e2 : H b with
              | none => rfl
              | some o =>
                by_cases e : b = L.p
                · have := t.ins
                  rw [← e, z] at this
                  cases this
                · have := k b o e2 (fun z => e (List.mem_singleton.mp z))
                  rw [z] at this
                  cases this
        · rintro σ H' ⟨L, x, rfl, t, lp, k, f1, f2⟩
          rw [List.length_map, hrl, take_all] at t
          exact h L H' lp k f1 f2 t
end
end K24
/-! K24L: The law's small defs: factor, low, heap, draw, pick, row. -/
namespace K24
open PySem PySem.Spec PyProof.Rows L2
section
variable {P : Program} {w : World} {K : PySem.W.Frag} {mg : Str → Option Value} {base : Heap} {f : Addr} {fd : FuncData} {cI cR C z : Addr}
theorem ok_l_factor (F : Fun K "_law_factor" "_law_factor" s_l_factor f fd) (Z : Bz mg) : FnOk P w K mg base (L2.CX P w) 1 f fd ["_law_one", "_law_other"] spGcd := by
  refine F.okX sc_l_factor (fun vs H Q E h => ?_) (fun cdv A outer s H vs Q E hr h => ?_)
  · obtain ⟨a, b, rfl, _⟩ := h
    rfl
  · obtain ⟨a, b, rfl, h⟩ := h
    have nd := sc_l_factor.nd
    refine ⟨_, (pss_cons (ps_par (i := 0) (j := 1) rfl nd rfl rfl (by decide) rfl rfl (pa_cons (pe_callB call_abs rfl Z.abs_ (by decide +kernel) (pa_cons (pv 0) pa_nil)) (pa_cons (pe_callB call_abs rfl Z.abs_ (by decide +kernel) (pa_cons (pv 1) pa_nil)) pa_nil)) (by rfl))
      (pss_cons (ps_while (passes_of rfl) (pt_cmpR op_gt (pv 1) pe_int (nomark _)) (pss_one (ps_par (i := 0) (j := 1) rfl nd rfl rfl (by decide) rfl rfl (pa_cons (pv 1) (pa_cons (pe_op op_modN (pe_callTy call_int1 rfl Z.int_ (by decide +kernel) (pa_cons (pv 0) pa_nil)) (pv 1)) pa_nil)) (by rfl))))
      (pss_one (ps_ret (pv 0))))), ?_⟩
    refine ⟨_, rfl, _, rfl, _, rfl, _, rfl, _, _, rfl, ?_⟩
    rw [abs_nn, abs_nn]
    refine gcd_loop (rest := []) a b (fun x y σ e Q => ?_) (fun x y D h1 h2 => ?_) ?_ ?_
    · subst e
      exact ⟨fun ⟨_, e1, _, _, e3, e4, _, e5, q⟩ => by cases e1; cases e3; cases e4; cases e5; exact q, fun q => ⟨_, rfl, _, _, rfl, rfl, _, rfl, q⟩⟩
    · refine ⟨_, rfl, _, rfl, .inl ⟨_, rfl, _, rfl, _, _, rfl, rfl, (by omega : y ≠ 0), _, _, rfl, ?_⟩⟩
      show D.nx [some (.int y), some (.int (x.fmod y))] H
      rw [fmod_nat x h1]
      exact h2
    · rintro σ H Q Q' hq ⟨v, e1, i, j, e3, e4, k, e5, q⟩
      exact ⟨v, e1, i, j, e3, e4, k, e5, hq _ _ q⟩
    · exact ⟨_, rfl, h⟩
structure DLo (P : Program) (w : World) (K : PySem.W.Frag) (mg : Str → Option Value) (base : Heap) : Prop where
  law_factor : Dn P w K mg base "_law_factor" 1 ["_law_one", "_law_other"] spGcd
theorem b2i_sg (b : Int) : (1 : Int) - 2 * (if decide (b < 0) = true then 1 else 0) = M.sg b := by
  unfold M.sg
  by_cases h : b < 0
  · simp [h]
  · simp [h]
theorem ok_l_low (F : Fun K "_law_low" "_law_low" s_l_low f fd) (Z : Bz mg) (D : DLo P w K mg base) : FnOk P w K mg base (L2.CX P w) 2 f fd ["_law_top", "_law_bottom"] spFrac := by
  refine F.okX sc_l_low (fun vs H Q E h => ?_) (fun cdv A outer s H vs Q E hr h => ?_)
  · obtain ⟨a, b, rfl, _⟩ := h
    rfl
  · obtain ⟨a, b, rfl, hb, hz, h⟩ := h
    have nd := sc_l_low.nd
    refine ⟨_, (pss_cons (ps_set (i := 2) nd rfl (Or.inl rfl) (pe_op op_mulW (pe_dn D.law_factor (hr.mono (by decide)) rfl passL (pa_cons (pv 0) (pa_cons (pv 1) pa_nil))) (pe_op op_sub pe_int (pe_op op_mulW pe_int (pe_callTy call_int1 rfl Z.int_ (by decide +kernel) (pa_cons (pe_cmpR op_lt (pv 1) pe_int (nomark _)) pa_nil))))))
      (pss_one (ps_ret (pe_tup (pa_cons (pe_op op_fdivS (pv 0) (pv 2)) (pa_cons (pe_op op_fdivS (pv 1) (pv 2)) pa_nil)))))), ?_⟩
    have hd := cdivS (i := a) (M.gs_ne (a := a) hb) (gs_small (a := a) hb hz) (by decide) (by decide)
    have hd2 := cdivS (i := b) (M.gs_ne (a := a) hb) (gs_small (a := a) hb hz) (by decide) (by decide)
    refine ⟨_, rfl, _, rfl, a, b, rfl, _, rfl, _, _, rfl, rfl, .inr ⟨_, rfl, _, _, rfl, rfl, ?_, _, _, rfl, rfl, _, _, rfl, rfl, ?_, ?_⟩⟩
    · refine wide_mul (a := 2) (b := 1) (by decide) ?_ (by decide) (by decide) (by decide)
      split <;> decide
    · show CMulW ((Int.gcd a b : Nat) : Int) (1 - 2 * (if decide (b < 0) = true then 1 else 0))
      rw [b2i_sg]
      have hg : ((Int.gcd a b : Nat) : Int).natAbs < 2 ^ 8000 := Nat.lt_of_le_of_lt (by
        show Int.gcd a b ≤ b.natAbs
        exact Nat.le_of_dvd (by omega) (Int.gcd_dvd_natAbs_right a b)) hz
      exact wide_mul hg (b_sg b) (by decide) (by decide) (by decide)
    · have hd' : CDivS a (((Int.gcd a b : Nat) : Int) * (1 - 2 * (if decide (b < 0) = true then 1 else 0))) := by rw [b2i_sg]; exact hd
      have hd2' : CDivS b (((Int.gcd a b : Nat) : Int) * (1 - 2 * (if decide (b < 0) = true then 1 else 0))) := by rw [b2i_sg]; exact hd2
      refine ⟨_, rfl, _, rfl, _, _, rfl, rfl, hd', _, rfl, _, rfl, _, _, rfl, rfl, hd2', (by show 2 ≤ sizeLine; decide), fun p hp => ?_⟩
      have e := norm_fdiv (a := a) hb
      show Q (.ref p) (upd H p (.tup [.int (a.fdiv (((Int.gcd a b : Nat) : Int) * (1 - 2 * (if decide (b < 0) = true then 1 else 0)))), .int (b.fdiv (((Int.gcd a b : Nat) : Int) * (1 - 2 * (if decide (b < 0) = true then 1 else 0))))]))
      rw [b2i_sg, show a.fdiv ((Int.gcd a b : Int) * M.sg b) = (M.norm a b).1 from congrArg Prod.fst e, show b.fdiv ((Int.gcd a b : Int) * M.sg b) = (M.norm a b).2 from congrArg Prod.snd e]
      exact h p hp
/-! K24L: ### the heap of the draws -/
structure HeapAt (H : Hp) (o n : Addr) : Prop where
  ex : ∃ (ms : List Int) (st : Int), H o = some (.lst [.ref n, .int st]) ∧ H n = some (.lst (ms.map V.int)) ∧ (∀ m ∈ ms, 0 ≤ m) ∧ 0 ≤ st ∧ st < 2147483647 ∧ ms.length ≤ 100000
  ne : o ≠ n
theorem HeapAt.keep {H H' : Hp} {o n : Addr} {fp : List Addr} (h : HeapAt H o n) (k : Keep fp H H') (h1 : o ∉ fp) (h2 : n ∉ fp) : HeapAt H' o n := by
  obtain ⟨⟨ms, st, a, b, r⟩, ne⟩ := h
  exact ⟨⟨ms, st, k _ _ a h1, k _ _ b h2, r⟩, ne⟩
theorem HeapAt.same {H H' : Hp} {o n : Addr} (h : HeapAt H o n) (s : Same H H') : HeapAt H' o n := h.keep (same_keep s []) (fun z => nomatch z) fun z => nomatch z
theorem HeapAt.wr {H : Hp} {o n : Addr} (h : HeapAt H o n) : ∀ b ∈ [o, n], Wr H b := by
  obtain ⟨⟨ms, st, a, b, _⟩, _⟩ := h
  intro c hc
  rcases List.mem_cons.mp hc with rfl | hc
  · exact .inr (.inl ⟨_, a⟩)
  · rw [List.mem_singleton.mp hc]
    exact .inr (.inl ⟨_, b⟩)
theorem dp_ints {H : Hp} : ∀ ns : List Int, DpAll K H (ns.map V.int) (ns.map PyData.int)
  | [] => .nil
  | n :: r => .cons (.int n) (dp_ints r)
theorem canLay_ints : ∀ ns : List Int, PyData.canLayAll0 (ns.map PyData.int) = true
  | [] => by simp [PyData.canLayAll0]
  | n :: r => by simp [PyData.canLayAll0, PyData.canLay0, canLay_ints r]
theorem shaped_ints (ns : List Int) : SeqAt.shaped (.list (ns.map PyData.int)) = true := by
  unfold SeqAt.shaped
  simp [PyData.canLay0, canLay_ints, PyData.depth, PySem.W.depth_ints]
theorem shaped_intsT (ns : List Int) : SeqAt.shaped (.tuple (ns.map PyData.int)) = true := by
  unfold SeqAt.shaped
  simp [PyData.canLay0, canLay_ints, PyData.depth, PySem.W.depth_ints]
theorem eqv_nil (ns : List Int) : PyData.eqv (.list (ns.map PyData.int)) (.list []) = ns.isEmpty := by
  cases ns with
  | nil => simp [PyData.eqv, PyData.eqvAll]
  | cons n r => simp [PyData.eqv, PyData.eqvAll]
theorem eqv_ints : ∀ ns ms : List Int, PyData.eqvAll (ns.map PyData.int) (ms.map PyData.int) = decide (ns = ms)
  | [], [] => by simp [PyData.eqvAll]
  | [], m :: r => by simp [PyData.eqvAll]
  | n :: r, [] => by simp [PyData.eqvAll]
  | n :: r, m :: q => by
    rw [List.map_cons, List.map_cons]
    simp only [PyData.eqvAll, PyData.eqv, eqv_ints r q]
    by_cases h : n = m
    · simp [h]
    · simp [h]
def spDraw (H0 : Unit) : Sp := fun vs H Q _ => ∃ (o n : Addr) (many : Int), vs = [.ref o, .int many] ∧ HeapAt H o n ∧ 1 ≤ many ∧ many < 2 ^ 40 ∧ ∀ (r : Int) H', Keep [o, n] H H' → HeapAt H' o n → 0 ≤ r → r < many → Q (.int r) H'
theorem fdiv_nn {a b : Int} (ha : 0 ≤ a) (hb : 0 < b) : 0 ≤ a.fdiv b := by rw [Int.fdiv_eq_ediv_of_nonneg _ (by omega)]; exact Int.ediv_nonneg ha (by omega)
theorem fmod_b {a b : Int} (hb : 0 < b) : 0 ≤ a.fmod b ∧ a.fmod b < b := by
  rw [fmod_nat a hb]
  exact ⟨Int.emod_nonneg _ (by omega), Int.emod_lt_of_pos _ hb⟩
theorem ok_l_draw (F : Fun K "_law_draw" "_law_draw" s_l_draw f fd) (Z : Bz mg) : FnOk P w K mg base (L2.CX P w) 1 f fd ["_law_heap_here", "_law_many"] (spDraw ()) := by
  refine F.okX sc_l_draw (fun vs H Q E h => ?_) (fun cdv A outer s H vs Q E hr h => ?_)
  · obtain ⟨o, n, many, rfl, _⟩ := h
    rfl
  · obtain ⟨o, n, many, rfl, ⟨⟨ms, st, h1, h2, h3, h4, h5, h6⟩, ne⟩, m1, m2, h⟩ := h
    have nd := sc_l_draw.nd
    refine ⟨_, (pss_cons (ps_while (passes_of rfl) (PW.pt (pw_and (pt_cmpR (op_neD hr.units) (pe_ix (r := rIxL K) ix_list (pv 0) pe_int (fun _ _ => rfl)) (pe_lst pa_nil) (nomark _)) (pw_and1 (pt_cmpR op_eq (pe_ix (r := rIxL K) ix_list (pe_ix (r := rIxL K) ix_list (pv 0) pe_int (fun _ _ => rfl)) (pe_un un_neg pe_int) (fun _ _ => rfl)) pe_int (nomark _))))) (pss_one (ps_expr (pe_bm0 PySem.F.plainAttrs_list PySem.F.slot_list_pop PySem.F.type_list_pop mt_pop (pe_ix (r := rIxL K) ix_list (pv 0) pe_int (fun _ _ => rfl))))))
      (pss_cons (ps_if (pt_cmpR (op_neD hr.units) (pe_ix (r := rIxL K) ix_list (pv 0) pe_int (fun _ _ => rfl)) (pe_lst pa_nil) (nomark _)) (pss_cons (ps_set (i := 2) nd rfl (Or.inl rfl) (pe_bm0 PySem.F.plainAttrs_list PySem.F.slot_list_pop PySem.F.type_list_pop mt_pop (pe_ix (r := rIxL K) ix_list (pv 0) pe_int (fun _ _ => rfl))))
      (pss_cons (ps_expr (pe_bm PySem.F.plainAttrs_list PySem.F.slot_list_append PySem.F.type_list_append mt_append (pe_ix (r := rIxL K) ix_list (pv 0) pe_int (fun _ _ => rfl)) (pa_cons (pe_op op_fdivS (pv 2) (pv 1)) pa_nil)))
      (pss_one (ps_ret (pe_op op_modN (pe_callTy call_int1 rfl Z.int_ (by decide +kernel) (pa_cons (pv 2) pa_nil)) (pv 1)))))) pss_nil)
      (pss_cons (ps_asg (pe_op op_modN (pe_callTy call_int1 rfl Z.int_ (by decide +kernel) (pa_cons (pe_op op_add (pe_op op_mulW (pe_ix (r := rIxL K) ix_list (pv 0) pe_int (fun _ _ => rfl)) pe_int) pe_int) pa_nil)) pe_int) (pg_sub (pv 0) pe_int set_list))
      (pss_one (ps_ret (pe_op op_modN (pe_callTy call_int1 rfl Z.int_ (by decide +kernel) (pa_cons (pe_op op_fdivS (pe_ix (r := rIxL K) ix_list (pv 0) pe_int (fun _ _ => rfl)) pe_int) pa_nil)) (pv 1))))))), ?_⟩
    refine ⟨fun m σ H' => σ = [some (.ref o), some (.int many), none] ∧ Keep [o, n] H H' ∧ ∃ ms : List Int, m = ms.length ∧ H' o = some (.lst [.ref n, .int st]) ∧ H' n = some (.lst (ms.map V.int)) ∧ (∀ m ∈ ms, 0 ≤ m) ∧ ms.length ≤ 100000, ⟨_, rfl, Keep.refl _ _, ms, rfl, h1, h2, h3, h6⟩, ?_⟩
    rintro m σ H' ⟨rfl, k, ms, rfl, h1, h2, h3, h6⟩
    refine ⟨_, rfl, o, _, _, .ref n, rfl, rfl, SqL.of h1, atI_nat (j := 0) rfl, (by show 0 ≤ sizeLine; decide), fun e he => ⟨_, _, .lst (SqL.of ((same_new he) _ _ h2)) (dp_ints ms), .lst (SqL.of upd_same) .nil, shaped_ints ms, rfl, _, rfl, ?_⟩⟩
    have s1 := same_new (o := .lst []) he
    have ko : Keep [o, n] H (upd H' e (.lst [])) := fun b u eb nb => s1 _ _ (k b u eb nb)
    rw [eqv_nil]
    rcases List.eq_nil_or_concat ms with rfl | ⟨r, x, rfl⟩
    · refine iteF ⟨_, rfl, o, _, _, .ref n, rfl, rfl, SqL.of (s1 _ _ h1), atI_nat (j := 0) rfl, (by show 0 ≤ sizeLine; decide), fun e2 he2 => ⟨_, _, .lst (SqL.of ((same_new he2) _ _ (s1 _ _ h2))) (dp_ints []), .lst (SqL.of upd_same) .nil, shaped_ints [], rfl, _, rfl, ?_⟩⟩
      have s2 := s1.trans (same_new (o := .lst []) he2)
      refine iteF ⟨_, rfl, o, _, _, .int st, rfl, rfl, SqL.of (s2 _ _ h1), atI_nat (j := 1) rfl, _, _, rfl, rfl, ?_, _, _, rfl, rfl, .inl ⟨_, rfl, _, _, rfl, rfl, (by decide : (2147483647 : Int) ≠ 0), _, rfl, o, _, _, 1, rfl, rfl, s2 _ _ h1, rfl, ?_⟩⟩
      · refine wide_mul (a := 40) (b := 40) ?_ (by decide) (by decide) (by decide) (by decide)
        omega
      · have hst := fmod_b (a := st * 69621 + 29) (b := 2147483647) (by decide)
        have hr := fmod_b (a := ((st * 69621 + 29).fmod 2147483647).fdiv 32) (b := many) (by omega)
        refine ⟨_, rfl, o, _, _, .int ((st * 69621 + 29).fmod 2147483647), rfl, rfl, SqL.of upd_same, atI_nat (j := 1) rfl, _, _, rfl, rfl, ⟨by decide, by decide⟩, .inl ⟨_, rfl, _, rfl, _, _, rfl, rfl, (by omega : many ≠ 0), ?_⟩⟩
        refine h _ _ (fun b u eb nb => ?_) ⟨⟨[], _, upd_same, ?_, (fun m hm => absurd hm (by simp)), hst.1, hst.2, by decide⟩, ne⟩ hr.1 hr.2
        · have n1 : b ≠ o := fun z => nb (by rw [z]; simp)
          rw [upd_ne n1]
          exact s2 _ _ (k b u eb nb)
        · rw [upd_ne ne.symm]
          exact s2 _ _ h2
    · rw [List.concat_eq_append] at h2 h3 h6 ⊢
      rw [List.map_append] at h2
      have hx : 0 ≤ x := h3 x (by simp)
      have e1 : (!(r ++ [x]).isEmpty) = true := by cases r <;> rfl
      rw [e1]
      refine iteT ⟨_, rfl, o, _, _, .ref n, rfl, rfl, SqL.of (s1 _ _ h1), atI_nat (j := 0) rfl, _, rfl, n, _, -1, .int x, rfl, rfl, SqL.of (s1 _ _ h2), atI_last _ _, rfl, _, rfl, ?_⟩
      by_cases x0 : x = 0
      · rw [show decide (V.int x = V.int 0) = true from by rw [x0]; rfl]
        refine iteT ⟨fun σ' H2 => σ' = [some (.ref o), some (.int many), none] ∧ Keep [o, n] H H2 ∧ H2 o = some (.lst [.ref n, .int st]) ∧ H2 n = some (.lst (r.map V.int)), fun σ' H2 hh => ⟨r.length, by simp, hh.1, hh.2.1, r, rfl, hh.2.2.1, hh.2.2.2, fun m hm => h3 m (by simp [hm]), by simp at h6; omega⟩, ?_⟩
        refine ⟨_, rfl, o, _, _, .ref n, rfl, rfl, SqL.of (s1 _ _ h1), atI_nat (j := 0) rfl, .inl ⟨rfl, _, SqL.of (s1 _ _ h2)⟩, n, _, .int x, rfl, rfl, s1 _ _ h2, by simp, ?_⟩
        refine ⟨rfl, fun b u eb nb => ?_, ?_, ?_⟩
        · have n1 : b ≠ n := fun z => nb (by rw [z]; simp)
          rw [upd_ne n1]
          exact ko b u eb nb
        · rw [upd_ne ne]
          exact s1 _ _ h1
        · rw [upd_same]
          simp
      · rw [show decide (V.int x = V.int 0) = false from decide_eq_false (fun z => x0 (V.int.inj z))]
        refine iteF ⟨_, rfl, o, _, _, .ref n, rfl, rfl, SqL.of (s1 _ _ h1), atI_nat (j := 0) rfl, (by show 0 ≤ sizeLine; decide), fun e2 he2 => ⟨_, _, .lst (SqL.of ((same_new he2) _ _ (s1 _ _ h2))) (by rw [← List.map_append]; exact dp_ints (r ++ [x])), .lst (SqL.of upd_same) .nil, shaped_ints _, rfl, _, rfl, ?_⟩⟩
        have s2 := s1.trans (same_new (o := .lst []) he2)
        rw [eqv_nil, e1]
        have hq := fdiv_nn hx (by omega : 0 < many)
        have hr := fmod_b (a := x) (b := many) (by omega)
        refine iteT ⟨_, rfl, o, _, _, .ref n, rfl, rfl, SqL.of (s2 _ _ h1), atI_nat (j := 0) rfl, .inl ⟨rfl, _, SqL.of (s2 _ _ h2)⟩, n, _, .int x, rfl, rfl, s2 _ _ h2, by simp, ?_⟩
        rw [show (r.map V.int ++ [x].map V.int).dropLast = r.map V.int from by simp]
        have o3 : (upd (upd (upd H' e (.lst [])) e2 (.lst [])) n (.lst (r.map V.int))) o = some (.lst [.ref n, .int st]) := by
          rw [upd_ne ne]
          exact s2 _ _ h1
        refine ⟨_, rfl, o, _, _, .ref n, rfl, rfl, SqL.of o3, atI_nat (j := 0) rfl, .inl ⟨rfl, _, SqL.of upd_same⟩, _, rfl, _, rfl, _, _, rfl, rfl, ⟨by omega, ?_⟩, n, _, _, rfl, rfl, upd_same, ?_, ?_⟩
        · have : many.natAbs < 2 ^ 40 := by omega
          exact (cdivS (i := 0) (by omega) this (by decide) (by decide)).2
        · rw [List.length_map]
          refine Nat.lt_of_le_of_lt ?_ (by decide : 100000 < sizeLine)
          simp at h6
          omega
        · refine ⟨_, rfl, .inl ⟨_, rfl, _, rfl, _, _, rfl, rfl, (by omega : many ≠ 0), ?_⟩⟩
          refine h _ _ (fun b u eb nb => ?_) ⟨⟨r ++ [x.fdiv many], st, ?_, ?_, fun m hm => ?_, h4, h5, ?_⟩, ne⟩ hr.1 hr.2
          · have n1 : b ≠ n := fun z => nb (by rw [z]; simp)
            rw [upd_ne n1, upd_ne n1]
            exact s2 _ _ (k b u eb nb)
          · rw [upd_ne ne]
            exact o3
          · rw [upd_same, List.map_append]
            rfl
          · rcases List.mem_append.mp hm with hm | hm
            · exact h3 m (by simp [hm])
            · rw [List.mem_singleton.mp hm]
              exact hq
          · simp at h6 ⊢
            omega
/-! K24L: ### pick, row, the heap made -/
structure DPi (P : Program) (w : World) (K : PySem.W.Frag) (mg : Str → Option Value) (base : Heap) : Prop where
  law_draw : Dn P w K mg base "_law_draw" 1 ["_law_heap_here", "_law_many"] (spDraw ())
  law_pick_ : True
/-- one of some ints, from a list or a tuple -/
def spPick (K : PySem.W.Frag) : Sp := fun vs H Q _ => ∃ (o n a : Addr) (ns : List Int), vs = [.ref o, .ref a] ∧ HeapAt H o n ∧ (SqT K H a (ns.map V.int) ∨ H a = some (.lst (ns.map V.int))) ∧ a ≠ o ∧ a ≠ n ∧ ns ≠ [] ∧ ns.length ≤ 1000 ∧ ∀ (r : Int) H', Keep [o, n] H H' → HeapAt H' o n → r ∈ ns → Q (.int r) H'
theorem ok_l_pick (F : Fun K "_law_pick" "_law_pick" s_l_pick f fd) (Z : Bz mg) (D : DPi P w K mg base) : FnOk P w K mg base (L2.CX P w) 2 f fd ["_law_heap_here", "_law_some"] (spPick K) := by
  refine F.okX sc_l_pick (fun vs H Q E h => ?_) (fun cdv A outer s H vs Q E hr h => ?_)
  · obtain ⟨o, n, a, ns, rfl, _⟩ := h
    rfl
  · obtain ⟨o, n, a, ns, rfl, hh, ha, n1, n2, ne, hl, h⟩ := h
    refine ⟨_, (pss_one (ps_ret (pe_ix (r := rIx K) ix_seq (pv 1) (pe_dn D.law_draw (hr.mono (by decide)) rfl passL (pa_cons (pv 0) (pa_cons (pe_callB call_len_seq rfl Z.len_ PySem.boot_len (pa_cons (pv 1) pa_nil)) pa_nil))) (fun _ _ => rfl)))), ?_⟩
    have pos : 0 < ns.length := List.length_pos_iff.mpr ne
    have ha' : SqL K H a (ns.map V.int) ∨ SqT K H a (ns.map V.int) := ha.elim .inr fun e => .inl (SqL.of e)
    refine ⟨_, rfl, _, rfl, _, rfl, a, _, rfl, ha', o, n, _, rfl, hh, ?_, ?_, fun r H' k h2 r0 r1 => ?_⟩
    · rw [List.length_map]; omega
    · rw [List.length_map]; omega
    · rw [List.length_map] at r1
      have hr' : r.toNat < ns.length := by omega
      have hget : (ns.map V.int)[r.toNat]? = some (.int (ns[r.toNat]'hr')) := by rw [List.getElem?_map, List.getElem?_eq_getElem hr']; rfl
      have ea : atI (ns.map V.int) r = some (.int (ns[r.toNat]'hr')) := by
        have := atI_nat hget
        rwa [show ((r.toNat : Nat) : Int) = r from by omega] at this
      have fin := h _ H' k h2 (List.getElem_mem hr')
      rcases ha with ha | ha
      · exact .inr (.inl ⟨a, _, r, _, rfl, rfl, keep_tup k hh.wr ha, ea, fin⟩)
      · exact .inl ⟨a, _, r, _, rfl, rfl, SqL.of (k _ _ ha (by simp [n1, n2])), ea, fin⟩
/-- the list of ints as cut -/
def cutI (xs : List Int) (lo hi : Option Int) : List Int := (xs.drop (HT.sIx xs.length 0 lo)).take (HT.sIx xs.length xs.length hi - HT.sIx xs.length 0 lo)
theorem cutV_ints (xs : List Int) (lo hi : Option Int) : cutV (xs.map V.int) lo hi = (cutI xs lo hi).map V.int := by
  unfold cutV cutI
  rw [List.length_map, List.map_take, List.map_drop]
theorem cutI_length (xs : List Int) (lo hi : Option Int) : (cutI xs lo hi).length ≤ xs.length := by
  have := cutV_length (xs.map V.int) lo hi
  rw [cutV_ints, List.length_map, List.length_map] at this
  exact this
/-- the turns of a list comprehension over ints in a list, with a test, nothing else written -/
theorem lc_mapL {a : Addr} {xs : List Int} {p : Int → Bool} {g : Int → Int} {i : Nat} {te : TE} {tt : TT} {σ : L2.St} {H : Hp} {D : Addr} {Qd : Hp → Prop} (hD : H D = none) (hx : SqL K H a (xs.map V.int)) (hz : xs.length < sizeLine)
    (ht : ∀ x ∈ xs, ∀ H', Same H H' → ∀ Q : Bool → Hp → Prop, Q (p x) H' → tt ((wipe σ [i]).set i (some (.int x))) H' Q)
    (he : ∀ x ∈ xs, ∀ H', Same H H' → ∀ Q : VK, Q (.int (g x)) H' → te ((wipe σ [i]).set i (some (.int x))) H' Q) (hd : ∀ H', Same H H' → H' D = some (.lst (((xs.filter p).map g).map V.int)) → Qd H')
    (hw2 : ∀ x : V, wipe ((wipe σ [i]).set i (some x)) [i] = wipe σ [i]) :
    ∃ W : Nat → Nat → Hp → Prop, (∃ m, W 0 m (upd H D (.lst []))) ∧ ∀ j m H, W j m H →
      ((Itl K a).stop j H ∧ Qd H) ∨ ((Itl K a).go j H ∧ ∃ Nx : Hp → Prop, (∀ H', Nx H' → ∃ m', m' < m ∧ W (j + 1) m' H') ∧ ∀ x H', (Itl K a).yld j H x H' → gName i x (wipe σ [i]) H' fun σ2 H2 => wipe σ2 [i] = wipe σ [i] ∧ tt σ2 H2 fun b H3 =>
        if b = true then te σ2 H3 fun y H4 => ∃ acc, H4 D = some (.lst acc) ∧ acc.length < sizeLine ∧ Nx (upd H4 D (.lst (acc ++ [y]))) else Nx H3) := by
  refine lc_list (K := K) (xs := xs.map V.int) (fun j H' => Same H H' ∧ H' D = some (.lst ((((xs.take j).filter p).map g).map V.int))) ⟨same_new hD, upd_same⟩ (fun j H' _ q => q.1.seq hx) ?_ ?_
  · rintro j x H' hj ⟨s1, h1⟩
    rw [List.getElem?_map] at hj
    obtain ⟨y, hy, rfl⟩ : ∃ y, xs[j]? = some y ∧ V.int y = x := by
      cases e : xs[j]? with
      | none => rw [e] at hj; cases hj
      | some y => rw [e] at hj; exact ⟨y, rfl, Option.some.inj hj⟩
    have hm := List.mem_of_getElem? hy
    refine ⟨hw2 _, ht y hm H' s1 _ ?_⟩
    rw [take_snoc hy, List.filter_append]
    cases e : p y with
    | true =>
      refine iteT (B := Same H H' ∧ H' D = some (.lst ((((xs.take j).filter p ++ [y].filter p).map g).map V.int))) ?_
      refine he y hm H' s1 _ ⟨_, h1, ?_, same_put s1 hD, ?_⟩
      · rw [List.length_map, List.length_map]
        exact Nat.lt_of_le_of_lt (Nat.le_trans (List.length_filter_le ..) (List.length_take_le' ..)) hz
      · rw [upd_same]
        simp [e]
    | false =>
      refine iteF ⟨s1, ?_⟩
      rw [h1]
      simp [e]
  · rintro H' ⟨s1, h1⟩
    rw [List.length_map, take_all] at h1
    exact hd H' s1 h1
def spHeap (K : PySem.W.Frag) : Sp := fun vs H Q _ => ∃ (a : Addr) (ns : List Int), vs = [.ref a] ∧ SqL K H a (ns.map V.int) ∧ ns.length ≤ 100000 ∧ ∀ o n H', Same H H' → HeapAt H' o n → H o = none → H n = none → Q (.ref o) H'
theorem ok_l_heap (F : Fun K "_law_heap" "_law_heap" s_l_heap f fd) (Z : Bz mg) : FnOk P w K mg base (L2.CX P w) 1 f fd ["_law_script"] (spHeap K) := by
  refine F.okX sc_l_heap (fun vs H Q E h => ?_) (fun cdv A outer s H vs Q E hr h => ?_)
  · obtain ⟨a, ns, rfl, _⟩ := h
    rfl
  · obtain ⟨a, ns, rfl, ha, hl, h⟩ := h
    have nd := sc_l_heap.nd
    have big : (100000 : Nat) < sizeLine := by decide
    refine ⟨_, (pss_cons (ps_par (i := 1) (j := 2) rfl nd rfl rfl (by decide) rfl rfl (pa_cons (pe_lc (own := [("_law_cell", 3)]) rfl nd (pi_list (pe_slice sl_list (pv 0) po_none (po_some pe_int))) (blkOk_by (N := ["_law_script", "_law_cells", "_law_stir", "_law_cell"]) (sc := defScope s_l_heap) (by decide +kernel)) (fun _ _ _ _ _ => (pg_name (i := 3) nd rfl (Or.inl rfl))) (fun _ _ _ _ _ => pts_nil) (fun _ _ _ _ _ => (pe_op op_add (pe_op op_mul pe_int (pe_callB call_abs rfl Z.abs_ (by decide +kernel) (pa_cons (pv 3) pa_nil))) (pe_callTy call_int1 rfl Z.int_ (by decide +kernel) (pa_cons (pe_cmpR op_lt (pv 3) pe_int (nomark _)) pa_nil))))) (pa_cons pe_int pa_nil)) (by rfl))
      (pss_cons (ps_for (passes_of rfl) rfl (pi_list (pv 1)) (pg_name (i := 3) nd rfl (Or.inl rfl)) (pss_one (ps_set (i := 2) nd rfl (Or.inl rfl) (pe_op op_modN (pe_callTy call_int1 rfl Z.int_ (by decide +kernel) (pa_cons (pe_op op_add (pe_op op_add (pe_op op_mulW (pv 2) pe_int) (pe_op op_modN (pe_callTy call_int1 rfl Z.int_ (by decide +kernel) (pa_cons (pv 3) pa_nil)) pe_int)) pe_int) pa_nil)) pe_int))))
      (pss_one (ps_ret (pe_lst (pa_cons (pe_revL (pe_lc (own := [("_law_cell", 3)]) rfl nd (pi_list (pv 1)) (blkOk_by (N := ["_law_script", "_law_cells", "_law_stir", "_law_cell"]) (sc := defScope s_l_heap) (by decide +kernel)) (fun _ _ _ _ _ => (pg_name (i := 3) nd rfl (Or.inl rfl))) (fun _ _ _ _ _ => (pts_one (pt_cmpR op_ge (pv 3) (pe_op op_pow pe_int pe_int) (nomark _)))) (fun _ _ _ _ _ => (pv 3)))) (pa_cons (pv 2) pa_nil))))))), ?_⟩
    refine ⟨_, rfl, 60, rfl, a, _, rfl, ha, fun p hp => ⟨p, rfl, ⟨_, SqL.of upd_same⟩, fun D hD => ?_⟩⟩
    rw [cutV_ints] at hD ⊢
    have cl := Nat.le_trans (cutI_length ns none (some 60)) hl
    refine lc_mapL (K := K) (i := 3) (p := fun _ => true) (g := fun x => 2 * (x.natAbs : Int) + (if decide (x < 0) = true then 1 else 0)) hD (SqL.of upd_same) (Nat.lt_of_le_of_lt cl big) ?_ ?_ ?_ (fun _ => rfl)
    · exact fun x _ H' _ Q q => q
    · intro x _ H' _ Q q
      refine ⟨_, rfl, _, rfl, ?_⟩
      rw [abs_nn]
      exact ⟨_, _, rfl, rfl, .inl ⟨by decide, by decide⟩, _, rfl, _, _, rfl, rfl, .inr ⟨_, rfl, _, _, rfl, rfl, q⟩⟩
    · intro H1 s1 hcs
      generalize hcells : ((cutI ns none (some 60)).filter fun _ => true).map (fun x : Int => 2 * (x.natAbs : Int) + (if decide (x < 0) = true then 1 else 0)) = cells at hcs
      have c0 : ∀ m ∈ cells, 0 ≤ m := by
        rw [← hcells]
        intro m hm
        obtain ⟨x, _, rfl⟩ := List.mem_map.mp hm
        split <;> omega
      have cl2 : cells.length ≤ 100000 := by
        rw [← hcells, List.length_map]
        exact Nat.le_trans (List.length_filter_le ..) cl
      have nD : H D = none := (same_new hp).free hD
      have sH : Same H H1 := (same_new hp).trans s1
      refine ⟨_, _, rfl, _, rfl, D, rfl, ⟨_, SqL.of hcs⟩, for_list (K := K) (xs := cells.map V.int) (fun i σ H' => ∃ (st : Int) (x : Option V), σ = [some (.ref a), some (.ref D), some (.int st), x] ∧ 0 ≤ st ∧ st < 2147483647 ∧ H' = H1) ⟨5443, none, rfl, by decide, by decide, rfl⟩ ?_ ?_ ?_⟩
      · rintro i σ H' _ ⟨st, x, rfl, _, _, rfl⟩
        exact SqL.of hcs
      · rintro i x σ H' hx ⟨st, x0, rfl, st0, st1, rfl⟩
        rw [List.getElem?_map] at hx
        obtain ⟨y, hy, rfl⟩ : ∃ y, cells[i]? = some y ∧ V.int y = x := by
          cases e : cells[i]? with
          | none => rw [e] at hx; cases hx
          | some y => rw [e] at hx; exact ⟨y, rfl, Option.some.inj hx⟩
        have hm := fmod_b (a := st * 48271 + y.fmod 2147483563 + 17) (b := 2147483647) (by decide)
        exact ⟨_, rfl, _, _, rfl, rfl, wide_mul (a := 40) (b := 40) (by omega) (by decide) (by decide) (by decide) (by decide), _, rfl, .inl ⟨_, rfl, _, _, rfl, rfl, (by show (2147483563 : Int) ≠ 0; decide), _, _, rfl, rfl, _, _, rfl, rfl, .inl ⟨_, rfl, _, _, rfl, rfl, (by show (2147483647 : Int) ≠ 0; decide), _, _, rfl, hm.1, hm.2, rfl⟩⟩⟩
      · rintro σ H' ⟨st, x, rfl, st0, st1, rfl⟩
        refine ⟨_, rfl, D, rfl, ⟨_, SqL.of hcs⟩, fun D2 hD2 => lc_mapL (K := K) (i := 3) (p := fun x => decide (10 ^ 18 ≤ x)) (g := fun x => x) hD2 (SqL.of hcs) (Nat.lt_of_le_of_lt cl2 big) ?_ ?_ ?_ (fun _ => rfl)⟩
        · intro x _ H2 _ Q q
          exact ⟨_, rfl, _, _, rfl, rfl, ⟨by decide, by decide, by decide⟩, _, _, rfl, rfl, _, rfl, q⟩
        · exact fun x _ H2 _ Q q => ⟨_, rfl, q⟩
        · intro H2 s2 h2
          refine ⟨D2, _, rfl, SqL.of h2, fun n hn => ⟨_, rfl, (by show 2 ≤ sizeLine; decide), fun o ho => ?_⟩⟩
          have non : n ≠ o := fun z => by rw [← z, upd_same] at ho; cases ho
          have s3 : Same H H2 := sH.trans s2
          have ho' : H2 o = none := by rwa [upd_ne non.symm] at ho
          refine h o n _ ((s3.trans (same_new hn)).trans (same_new ho)) ⟨⟨(((cells.filter fun x => decide (10 ^ 18 ≤ x)).map fun x => x).reverse), st, upd_same, ?_, ?_, st0, st1, ?_⟩, non.symm⟩ (s3.free ho') (s3.free hn)
          · rw [upd_ne non, upd_same, List.map_reverse]
          · intro m hm
            rw [List.mem_reverse, List.map_id'] at hm
            exact c0 m (List.mem_filter.mp hm).1
          · rw [List.length_reverse, List.length_map]
            exact Nat.le_trans (List.length_filter_le ..) cl2
structure DRw (P : Program) (w : World) (K : PySem.W.Frag) (mg : Str → Option Value) (base : Heap) : Prop where
  law_draw : Dn P w K mg base "_law_draw" 1 ["_law_heap_here", "_law_many"] (spDraw ())
  law_pick : Dn P w K mg base "_law_pick" 2 ["_law_heap_here", "_law_some"] (spPick K)
def spRow (K : PySem.W.Frag) : Sp := fun vs H Q _ => ∃ (o n : Addr) (size : Int), vs = [.ref o, .int size] ∧ HeapAt H o n ∧ 1 ≤ size ∧ size ≤ 4 ∧
  ∀ (ra : Addr) (cs : List Int) (eq : Bool) (b : Int) H', Keep [o, n] H H' → HeapAt H' o n → RowAt K H' ra cs eq b → (cs.length : Int) = size → (∀ x ∈ cs, x.natAbs ≤ 1000000) → b.natAbs ≤ 6 → Q (.ref ra) H'
theorem keep_new {H : Hp} {a : Addr} {o : HO} {fp : List Addr} {H0 : Hp} (k : Keep fp H0 H) (h : H a = none) : Keep fp H0 (upd H a o) := fun b u eb nb => by
  have := k b u eb nb
  rw [upd_ne (ne_of_none this h)]
  exact this
theorem keep_trans {fp : List Addr} {H H1 H2 : Hp} (a : Keep fp H H1) (b : Keep fp H1 H2) : Keep fp H H2 := fun c o e n => b c o (a c o e n) n
theorem free_keep {fp : List Addr} {H H' : Hp} {a : Addr} (k : Keep fp H H') (h : H' a = none) (n : a ∉ fp) : H a = none := by
  cases e : H a with
  | none => rfl
  | some o =>
    have := k a o e n
    rw [h] at this
    cases this
theorem heap_out {H : Hp} {o n a : Addr} (h : HeapAt H o n) (ha : H a = none) : a ∉ [o, n] := fun hm => by
  rcases h.wr a hm with ⟨_, _, _, z⟩ | ⟨_, z⟩ | ⟨_, z⟩ <;> rw [ha] at z <;> cases z
theorem ok_l_row (F : Fun K "_law_row" "_law_row" s_l_row f fd) (Z : Bz mg) (D : DRw P w K mg base) : FnOk P w K mg base (L2.CX P w) 3 f fd ["_law_heap_here", "_law_size"] (spRow K) := by
  refine F.okX sc_l_row (fun vs H Q E h => ?_) (fun cdv A outer s H vs Q E hr h => ?_)
  · obtain ⟨o, n, size, rfl, _⟩ := h
    rfl
  · obtain ⟨o, n, size, rfl, hh, z1, z4, h⟩ := h
    have nd := sc_l_row.nd
    refine ⟨_, (pss_cons (ps_set (i := 2) nd rfl (Or.inr rfl) (pe_dn D.law_pick (hr.mono (by decide)) rfl passL (pa_cons (pv 0) (pa_cons (pe_lst (pa_cons pe_int (pa_cons pe_int (pa_cons pe_int (pa_cons pe_int (pa_cons pe_int (pa_cons pe_int (pa_cons (pe_op op_pow pe_int pe_int) pa_nil)))))))) pa_nil))))
      (pss_cons (ps_setLc (i := 3) (own := [("_law_place", 4)]) rfl nd rfl rfl (sw_true rfl rfl rfl (by decide +kernel)) (pi_range1 rfl Z.range_ (pa_cons (pv 1) pa_nil)) (blkOk_by (N := ["_law_heap_here", "_law_size", "_law_most", "_law_parts", "_law_place", "_law_at"]) (sc := defScope s_l_row) (by decide +kernel)) (fun _ _ _ _ _ => (pg_name (i := 4) nd rfl (Or.inl rfl))) (fun _ _ _ _ _ => pts_nil) (fun _ _ _ _ _ => (pe_op op_sub (pe_dn D.law_draw (hr.mono (by decide)) rfl passL (pa_cons (pv 0) (pa_cons (pe_op op_add (pe_op op_mulW pe_int (pv 2)) pe_int) pa_nil))) (pv 2))))
      (pss_cons (ps_set (i := 5) nd rfl (Or.inl rfl) (pe_dn D.law_draw (hr.mono (by decide)) rfl passL (pa_cons (pv 0) (pa_cons (pv 1) pa_nil))))
      (pss_cons (ps_asg (pe_ifExp (pt_cmpR op_eq (pe_ix (r := rIxL K) ix_list (pv 3) (pv 5) (fun _ _ => rfl)) pe_int (nomark _)) pe_int (pe_ix (r := rIxL K) ix_list (pv 3) (pv 5) (fun _ _ => rfl))) (pg_sub (pv 3) (pv 5) set_list))
      (pss_one (ps_ret (pe_tup (pa_cons (pe_tupleOf rfl Z.tuple_ (pv 3)) (pa_cons (pe_cmpR op_eq (pe_dn D.law_draw (hr.mono (by decide)) rfl passL (pa_cons (pv 0) (pa_cons pe_int pa_nil))) pe_int (nomark _)) (pa_cons (pe_op op_sub (pe_dn D.law_draw (hr.mono (by decide)) rfl passL (pa_cons (pv 0) (pa_cons pe_int pa_nil))) pe_int) pa_nil)))))))))), ?_⟩
    refine ⟨_, rfl, _, _, rfl, rfl, ⟨by decide, by decide, by decide⟩, (by show 7 ≤ sizeLine; decide), fun pl hpl => ?_⟩
    have hh1 := hh.same (same_new (o := .lst [.int 1, .int 2, .int 4, .int 1, .int 2, .int 3, .int 1000000]) hpl)
    have out := heap_out hh hpl
    refine ⟨o, n, pl, [1, 2, 4, 1, 2, 3, 1000000], rfl, hh1, .inr upd_same, (fun e => out (by rw [e]; simp)), (fun e => out (by rw [e]; simp)), (by decide), (by decide), fun most H1 k1 hh2 hm => ?_⟩
    have k1' : Keep [o, n] H H1 := fun b u eb nb => k1 b u ((same_new hpl) b u eb) nb
    have m1 : 1 ≤ most ∧ most ≤ 1000000 := by
      simp only [List.mem_cons, List.not_mem_nil, or_false] at hm
      omega
    refine ⟨_, rfl, size, rfl, by omega, by omega, fun D hD => ?_⟩
    have hDH : H D = none := free_keep k1' hD (heap_out hh2 hD)
    refine lc_range (lo := 0) (n := size.toNat) (fun i H' => Keep [o, n] H H' ∧ HeapAt H' o n ∧ D ∉ [o, n] ∧ ∃ xs : List Int, H' D = some (.lst (xs.map V.int)) ∧ xs.length = i ∧ ∀ x ∈ xs, x.natAbs ≤ 1000000) ?_ ?_ ?_
    · exact ⟨keep_new k1' hD, hh2.same (same_new hD), heap_out hh2 hD, [], upd_same, rfl, fun x hx => nomatch hx⟩
    · rintro i H' hi ⟨k2, hh3, nD, xs, e1, e2, e3⟩
      refine ⟨rfl, ?_⟩
      refine iteT (B := Keep [o, n] H H' ∧ HeapAt H' o n ∧ D ∉ [o, n] ∧ ∃ xs : List Int, H' D = some (.lst (xs.map V.int)) ∧ xs.length = i + 1 ∧ ∀ x ∈ xs, x.natAbs ≤ 1000000) ?_
      refine ⟨_, rfl, _, rfl, _, _, rfl, rfl, wide_mul (a := 30) (b := 30) (by decide) (by omega) (by decide) (by decide) (by decide), _, _, rfl, rfl, o, n, _, rfl, hh3, (by omega), (by omega), fun r H2 k3 hh4 r0 r1 => ⟨_, rfl, _, _, rfl, rfl, ?_⟩⟩
      have e4 := k3 _ _ e1 nD
      refine ⟨_, e4, ?_, fun b u eb nb => ?_, hh4.keep (keep_one _ _ _) (fun z => nD (by rw [← List.mem_singleton.mp z]; simp)) (fun z => nD (by rw [← List.mem_singleton.mp z]; simp)), nD, xs ++ [r - most], ?_, ?_, ?_⟩
      · rw [List.length_map, e2]
        exact Nat.lt_of_le_of_lt (by omega : i ≤ 4) (by decide)
      · rw [upd_ne (ne_of_none eb hDH)]
        exact k3 _ _ (k2 b u eb nb) nb
      · rw [upd_same, List.map_append]
        rfl
      · rw [List.length_append, e2]
        rfl
      · intro x hx
        rcases List.mem_append.mp hx with hx | hx
        · exact e3 x hx
        · rw [List.mem_singleton.mp hx]
          omega
    · rintro H2 ⟨k2, hh3, nD, xs, e1, e2, e3⟩
      refine ⟨_, rfl, _, rfl, o, n, size, rfl, hh3, z1, (by omega), fun at_ H3 k3 hh4 a0 a1 => ?_⟩
      have e4 := k3 _ _ e1 nD
      have k3' : Keep [o, n] H H3 := keep_trans k2 k3
      have hlt : at_.toNat < xs.length := by omega
      have hget : (xs.map V.int)[at_.toNat]? = some (.int (xs[at_.toNat]'hlt)) := by rw [List.getElem?_map, List.getElem?_eq_getElem hlt]; rfl
      have hat : atI (xs.map V.int) at_ = some (.int (xs[at_.toNat]'hlt)) := by
        have := atI_nat hget
        rwa [show ((at_.toNat : Nat) : Int) = at_ from by omega] at this
      have hix : ixN (xs.map V.int).length at_ = some at_.toNat := by
        rw [List.length_map]
        unfold ixN
        rw [if_pos a0, if_pos (by omega)]
      -- the tail, whatever is put in
      have fin : ∀ v : Int, v.natAbs ≤ 1000000 → (tRet (tTup (tCons (tThen (tVar 3) (kTup K)) (tCons (tOp rEq (tCall (spDraw ()) [] E0 (tCons (tVar 0) (tCons (tC (.int 4)) tNil))) (tC (.int 3))) (tCons (tOp (rI0 fun i j => .int (i - j)) (tCall (spDraw ()) [] E0 (tCons (tVar 0) (tCons (tC (.int 13)) tNil))) (tC (.int 6))) tNil))))) { nx := fun _ H' => Q .non H', rt := Q } [some (.ref o), some (.int size), some (.int most), some (.ref D), none, some (.int at_)] (upd H3 D (.lst ((xs.map V.int).set at_.toNat (.int v)))) := fun v hv => by
        have kD : Keep [o, n] H (upd H3 D (.lst ((xs.map V.int).set at_.toNat (.int v)))) := fun b u eb nb => by
          rw [upd_ne (ne_of_none eb hDH)]
          exact k3' b u eb nb
        have hhD := hh4.keep (keep_one H3 D (.lst ((xs.map V.int).set at_.toNat (.int v)))) (fun z => nD (by rw [← List.mem_singleton.mp z]; simp)) (fun z => nD (by rw [← List.mem_singleton.mp z]; simp))
        refine ⟨_, rfl, .inl ⟨D, _, rfl, SqL.of upd_same, fun ca hca => ⟨_, rfl, o, n, 4, rfl, hhD.same (same_new hca), by decide, by decide, fun r1 H4 k4 hh5 _ _ => ⟨rfl, _, rfl, o, n, 13, rfl, hh5, by decide, by decide, fun r2 H5 k5 hh6 b0 b1 => ⟨_, _, rfl, rfl, (by show 3 ≤ sizeLine; decide), fun ra hra => ?_⟩⟩⟩⟩⟩
        have k5' : Keep [o, n] H H5 := keep_trans (keep_trans (keep_new kD hca) k4) k5
        have hca' : SqT K H5 ca ((xs.map V.int).set at_.toNat (.int v)) := keep_tup k5 hh5.wr (keep_tup k4 (hhD.same (same_new hca)).wr (SqT.of upd_same))
        refine h ra (xs.set at_.toNat v) _ (r2 - 6) _ (keep_new k5' hra) (hh6.same (same_new hra)) ⟨ca, SqT.of upd_same, ?_⟩ ?_ (fun x hx => ?_) (by omega)
        · rw [List.map_set]
          exact same_tup (same_new hra) hca'
        · rw [List.length_set]
          omega
        · rcases List.mem_or_eq_of_mem_set hx with hx | hx
          · exact e3 x hx
          · rw [hx]
            exact hv
      refine ⟨_, rfl, _, rfl, D, _, _, .int (xs[at_.toNat]'hlt), rfl, rfl, SqL.of e4, hat, rfl, _, rfl, ?_⟩
      refine ite2 (fun _ => ?_) (fun _ => ?_)
      · exact ⟨_, rfl, _, rfl, D, _, _, _, rfl, rfl, e4, hix, fin 1 (by decide)⟩
      · exact ⟨_, rfl, _, rfl, D, _, _, _, rfl, rfl, SqL.of e4, hat, _, rfl, _, rfl, D, _, _, _, rfl, rfl, e4, hix, fin _ (e3 _ (List.getElem_mem hlt))⟩
end
end K24
/-! K24D: The law's determinant and entry. -/
namespace K24
open PySem PySem.Spec PyProof.Rows L2
namespace M
theorem E1_bound (a : Nat → Int) (B G : Nat) : ∀ (cs : List Nat) (g : List Nat → Int), (∀ c ∈ cs, (a c).natAbs ≤ B) → (∀ l, (∀ c ∈ l, c ∈ cs) → l.length + 1 = cs.length → (g l).natAbs ≤ G) → (E1 a cs g).natAbs ≤ cs.length * (B * G)
  | [], g, _, _ => by simp [E1]
  | c :: cs, g, ha, hg => by
    have h1 : (a c * g cs).natAbs ≤ B * G := by
      rw [Int.natAbs_mul]
      exact Nat.mul_le_mul (ha c List.mem_cons_self) (hg cs (fun x hx => List.mem_cons_of_mem _ hx) rfl)
    have h2 := E1_bound a B G cs (fun l => g (c :: l)) (fun x hx => ha x (List.mem_cons_of_mem _ hx)) fun l hl e => hg (c :: l) (fun x hx => by
      rcases List.mem_cons.mp hx with rfl | hx
      · exact List.mem_cons_self
      · exact List.mem_cons_of_mem _ (hl x hx)) (by simp only [List.length_cons]; omega)
    show (a c * g cs - E1 a cs (fun l => g (c :: l))).natAbs ≤ (cs.length + 1) * (B * G)
    rw [Nat.add_mul, Nat.one_mul]
    omega
theorem D_bound (B n : Nat) : ∀ (rows : List (Nat → Int)) (cs : List Nat), cs.length ≤ n → (∀ r ∈ rows, ∀ c ∈ cs, (r c).natAbs ≤ B) → (D cs rows).natAbs ≤ (n * B) ^ rows.length
  | [], cs, _, _ => by rw [D_nil]; exact Nat.le_refl _
  | r :: rows, cs, hc, h => by
    rw [D_cons]
    have := E1_bound r B ((n * B) ^ rows.length) cs (fun l => D l rows) (fun c hcm => h r List.mem_cons_self c hcm) fun l hl e => D_bound B n rows l (by omega) fun r' hr' c hcm => h r' (List.mem_cons_of_mem _ hr') c (hl c hcm)
    refine Nat.le_trans this ?_
    rw [List.length_cons, Nat.pow_succ, Nat.mul_comm ((n * B) ^ rows.length), ← Nat.mul_assoc]
    exact Nat.mul_le_mul_right _ (Nat.mul_le_mul_right _ hc)
end M
theorem cut_take (xs : List V) {i : Nat} (h : i ≤ xs.length) : cutV xs none (some (i : Int)) = xs.take i := by
  unfold cutV
  rw [HT.sIx_none, HT.sIx_nat, List.drop_zero]
  congr 1
  omega
theorem cut_drop (xs : List V) {i : Nat} (h : i ≤ xs.length) : cutV xs (some (i : Int)) none = xs.drop i := by
  unfold cutV
  rw [HT.sIx_none, HT.sIx_nat, Nat.min_eq_left h]
  exact List.take_of_length_le (by rw [List.length_drop]; omega)
section
variable {P : Program} {w : World} {K : PySem.W.Frag} {mg : Str → Option Value} {base : Heap} {f : Addr} {fd : FuncData} {cI cR C z : Addr}
def lineV (cs : List Nat) (r : Nat → Int) : List V := (cs.map r).map V.int
/-- the lines at as: the rows at the columns cs -/
def LinesAt (K : PySem.W.Frag) (H : Hp) (as : List Addr) (cs : List Nat) (rows : List (Nat → Int)) : Prop := Paired (fun a r => SqL K H a (lineV cs r)) as rows
theorem LinesAt.same {H H' : Hp} {as : List Addr} {cs : List Nat} {rows : List (Nat → Int)} (h : LinesAt K H as cs rows) (s : Same H H') : LinesAt K H' as cs rows := by
  unfold LinesAt at *
  induction h with
  | nil => exact .nil
  | cons a t ih => exact .cons (s.seq a) ih
/-- the same of new lists, none of them at D -/
def LnD (H : Hp) (D : Addr) (as : List Addr) (cs : List Nat) (rows : List (Nat → Int)) : Prop := Paired (fun a r => H a = some (.lst (lineV cs r)) ∧ a ≠ D) as rows
theorem LnD.mono {H H' : Hp} {D : Addr} {as : List Addr} {cs : List Nat} {rows : List (Nat → Int)} (h : LnD H D as cs rows) (s : Same H H') : LnD H' D as cs rows := by
  unfold LnD at *
  induction h with
  | nil => exact .nil
  | cons a t ih => exact .cons ⟨s _ _ a.1, a.2⟩ ih
theorem LnD.put {H : Hp} {D : Addr} {as : List Addr} {cs : List Nat} {rows : List (Nat → Int)} {o : HO} (h : LnD H D as cs rows) : LnD (upd H D o) D as cs rows := by
  unfold LnD at *
  induction h with
  | nil => exact .nil
  | cons a t ih => exact .cons ⟨by rw [upd_ne a.2]; exact a.1, a.2⟩ ih
theorem LnD.lines {H : Hp} {D : Addr} {as : List Addr} {cs : List Nat} {rows : List (Nat → Int)} (h : LnD H D as cs rows) : LinesAt K H as cs rows := by
  unfold LnD at h
  unfold LinesAt
  induction h with
  | nil => exact .nil
  | cons a t ih => exact .cons (SqL.of a.1) ih
structure LinesOk (cs : List Nat) (rows : List (Nat → Int)) (n : Nat) : Prop where
  r : rows.length = n
  c : cs.length = n
  n4 : n ≤ 4
  b : ∀ r ∈ rows, ∀ c ∈ cs, (r c).natAbs ≤ 1000000
def spDet (K : PySem.W.Frag) (n : Nat) : Sp := fun vs H Q _ => ∃ (a : Addr) (as : List Addr) (cs : List Nat) (rows : List (Nat → Int)), vs = [.ref a] ∧ SqL K H a (as.map V.ref) ∧ LinesAt K H as cs rows ∧ LinesOk cs rows n ∧ ∀ H', Same H H' → Q (.int (M.D cs rows)) H'
theorem det_small {cs : List Nat} {rows : List (Nat → Int)} {n : Nat} (h : LinesOk cs rows n) : (M.D cs rows).natAbs < 2 ^ 100 := by
  have := M.D_bound 1000000 4 rows cs (by have := h.c; have := h.n4; omega) h.b
  have h2 : (4 * 1000000) ^ rows.length ≤ (4 * 1000000) ^ 4 := Nat.pow_le_pow_right (by decide) (by have := h.r; have := h.n4; omega)
  have h3 : (4 * 1000000) ^ 4 < 2 ^ 100 := by decide
  omega
/-- data of the lines -/
theorem dp_lines {H : Hp} {cs : List Nat} : ∀ {as : List Addr} {rows : List (Nat → Int)}, LinesAt K H as cs rows → DpAll K H (as.map V.ref) (rows.map fun r => .list ((cs.map r).map PyData.int))
  | _, _, .nil => .nil
  | _, _, .cons a t => .cons (.lst a (dp_ints _)) (dp_lines t)
theorem shaped_lines (cs : List Nat) (rows : List (Nat → Int)) : SeqAt.shaped (.list (rows.map fun r => .list ((cs.map r).map PyData.int))) = true := by
  have h1 : ∀ rows : List (Nat → Int), PyData.canLayAll0 (rows.map fun r => PyData.list ((cs.map r).map PyData.int)) = true := by
    intro rows
    induction rows with
    | nil => simp [PyData.canLayAll0]
    | cons r t ih => simp only [List.map_cons, PyData.canLayAll0, PyData.canLay0, canLay_ints, ih, Bool.true_and]
  have h2 : ∀ rows : List (Nat → Int), PyData.depthAll (rows.map fun r => PyData.list ((cs.map r).map PyData.int)) ≤ 1 := by
    intro rows
    induction rows with
    | nil => simp [PyData.depthAll]
    | cons r t ih =>
      simp only [List.map_cons, PyData.depthAll, PyData.depth, PySem.W.depth_ints]
      omega
  unfold SeqAt.shaped
  rw [Bool.and_eq_true]
  refine ⟨by simp only [PyData.canLay0]; exact h1 rows, decide_eq_true ?_⟩
  have := h2 rows
  simp only [PyData.depth]
  omega
theorem eqv_lines (cs : List Nat) (rows : List (Nat → Int)) : PyData.eqv (.list (rows.map fun r => .list ((cs.map r).map PyData.int))) (.list []) = rows.isEmpty := by
  cases rows with
  | nil => simp [PyData.eqv, PyData.eqvAll]
  | cons n r => simp [PyData.eqv, PyData.eqvAll]
theorem ok_det0 (F : Fun K "_law_determinant" "_law_determinant" s_l_determinant f fd) (Z : Bz mg) : FnOk P w K mg base (L2.CX P w) 1 f fd ["_law_lines"] (spDet K 0) := by
  refine F.okX sc_l_determinant (fun vs H Q E h => ?_) (fun cdv A outer s H vs Q E hr h => ?_)
  · obtain ⟨a, as, cs, rows, rfl, _⟩ := h
    rfl
  · obtain ⟨a, as, cs, rows, rfl, ha, hl, ok, h⟩ := h
    refine ⟨_, pss_cons (ps_if (pt_cmpR (op_eqD hr.units) (pv 0) (pe_lst pa_nil) (nomark _)) (pss_one (ps_ret pe_int)) pss_nil) pss_never, ?_⟩
    obtain rfl : rows = [] := List.length_eq_zero_iff.mp ok.r
    refine ⟨_, rfl, (by show 0 ≤ sizeLine; decide), fun e he => ⟨_, _, .lst ((same_new he).seq ha) (dp_lines (hl.same (same_new he))), .lst (SqL.of upd_same) .nil, shaped_lines _ _, rfl, _, rfl, ?_⟩⟩
    rw [eqv_lines]
    refine iteT ?_
    have := h _ (same_new (o := .lst []) he)
    rw [M.D_nil] at this
    exact this
theorem lineV_get {cs : List Nat} {r : Nat → Int} {i c : Nat} (h : cs[i]? = some c) : (lineV cs r)[i]? = some (.int (r c)) := by
  unfold lineV
  rw [List.getElem?_map, List.getElem?_map, h]
  rfl
theorem lineV_erase (cs : List Nat) (r : Nat → Int) (i : Nat) : (lineV cs r).take i ++ (lineV cs r).drop (i + 1) = lineV (cs.eraseIdx i) r := by
  unfold lineV
  rw [List.eraseIdx_eq_take_drop_succ, List.map_append, List.map_append, List.map_take, List.map_take, List.map_drop, List.map_drop]
theorem lineV_length (cs : List Nat) (r : Nat → Int) : (lineV cs r).length = cs.length := by unfold lineV; rw [List.length_map, List.length_map]
theorem erase_mem {cs : List Nat} {i c : Nat} (h : c ∈ cs.eraseIdx i) : c ∈ cs := (List.eraseIdx_sublist cs i).subset h
theorem E1_step (a : Nat → Int) (g : List Nat → Int) {cs : List Nat} {i c : Nat} (h : cs[i]? = some c) :
    M.E1 a (cs.drop i) (fun l => g (cs.take i ++ l)) = a c * g (cs.eraseIdx i) - M.E1 a (cs.drop (i + 1)) (fun l => g (cs.take (i + 1) ++ l)) := by
  rw [drop_nth h, take_snoc h, List.eraseIdx_eq_take_drop_succ]
  show a c * g (cs.take i ++ cs.drop (i + 1)) - M.E1 a (cs.drop (i + 1)) (fun l => g (cs.take i ++ c :: l)) = _
  congr 1
  refine M.E1_congr _ _ _ _ fun l => ?_
  rw [List.append_assoc]
  rfl
theorem ok_det1 {n : Nat} (F : Fun K "_law_determinant" "_law_determinant" s_l_determinant f fd) (Z : Bz mg) (D0 : Dn P w K mg base "_law_determinant" (n + 1) ["_law_lines"] (spDet K n)) : FnOk P w K mg base (L2.CX P w) (n + 2) f fd ["_law_lines"] (spDet K (n + 1)) := by
  refine F.okX sc_l_determinant (fun vs H Q E h => ?_) (fun cdv A outer s H vs Q E hr h => ?_)
  · obtain ⟨a, as, cs, rows, rfl, _⟩ := h
    rfl
  · obtain ⟨a, as, cs, rows, rfl, ha, hl, ok, h⟩ := h
    have nd := sc_l_determinant.nd
    refine ⟨_, (pss_cons (ps_if (pt_cmpR (op_eqD hr.units) (pv 0) (pe_lst pa_nil) (nomark _)) (pss_one (ps_ret pe_int)) pss_nil)
      (pss_cons (ps_asg (pe_tup (pa_cons pe_int (pa_cons pe_int pa_nil))) (pg_tupK (K := K) (n := 2) rfl (pgs_cons (pg_name (i := 1) nd rfl (Or.inl rfl)) (pgs_cons (pg_name (i := 2) nd rfl (Or.inl rfl)) pgs_nil)) (by rfl)))
      (pss_cons (ps_for (passes_of rfl) rfl (pi_range1 rfl Z.range_ (pa_cons (pe_callB call_len_seq rfl Z.len_ PySem.boot_len (pa_cons (pv 0) pa_nil)) pa_nil)) (pg_name (i := 3) nd rfl (Or.inr rfl)) (pss_cons (ps_if (pt_cmpR op_ne (pe_ix (r := rIxL K) ix_list (pe_ix (r := rIxL K) ix_list (pv 0) pe_int (fun _ _ => rfl)) (pv 3) (fun _ _ => rfl)) pe_int (nomark _)) (pss_cons (ps_setLc (i := 4) (own := [("_law_line", 5)]) rfl nd rfl rfl (sw_true rfl rfl rfl (by decide +kernel)) (pi_list (pe_slice (r := rSlL K) sl_list (pv 0) (po_some pe_int) po_none)) (blkOk_by (N := ["_law_lines", "_law_total", "_law_sign", "_law_at", "_law_rest", "_law_line"]) (sc := defScope s_l_determinant) (by decide +kernel)) (fun _ _ _ _ _ => (pg_name (i := 5) nd rfl (Or.inl rfl))) (fun _ _ _ _ _ => pts_nil) (fun _ _ _ _ _ => (pe_op op_cat (pe_slice (r := rSlL K) sl_list (pv 5) po_none (po_some (pv 3))) (pe_slice (r := rSlL K) sl_list (pv 5) (po_some (pe_op op_add (pv 3) pe_int)) po_none))))
      (pss_one (ps_set (i := 1) nd rfl (Or.inl rfl) (pe_op op_add (pv 1) (pe_op op_mulW (pe_op op_mulW (pv 2) (pe_ix (r := rIxL K) ix_list (pe_ix (r := rIxL K) ix_list (pv 0) pe_int (fun _ _ => rfl)) (pv 3) (fun _ _ => rfl))) (pe_dn D0 (hr.mono (Nat.le_refl _)) rfl passL (pa_cons (pv 4) pa_nil))))))) pss_nil)
      (pss_one (ps_set (i := 2) nd rfl (Or.inl rfl) (pe_op op_sub pe_int (pv 2))))))
      (pss_one (ps_ret (pv 1)))))), ?_⟩
    have hal := Paired.length hl
    refine ⟨_, rfl, (by show 0 ≤ sizeLine; decide), fun e he => ⟨_, _, .lst ((same_new he).seq ha) (dp_lines (hl.same (same_new he))), .lst (SqL.of upd_same) .nil, shaped_lines _ _, rfl, _, rfl, ?_⟩⟩
    rw [eqv_lines]
    obtain ⟨r0, rows', rfl⟩ : ∃ r0 rows', rows = r0 :: rows' := by
      cases rows with
      | nil => have := ok.r; simp at this
      | cons r t => exact ⟨r, t, rfl⟩
    cases hl with
    | @cons a0 _ as' _ h0 ht =>
      have cl : cs.length = n + 1 := ok.c
      have n4 := ok.n4
      have r1 : rows'.length = n := by have := ok.r; simpa using this
      have al1 : as'.length = n := (Paired.length ht).trans r1
      refine iteF ⟨(by show 2 ≤ sizeLine; decide), fun tp htp => ⟨tp, _, rfl, SqT.of upd_same, rfl, _, _, rfl, _, _, rfl, rfl, ?_⟩⟩
      obtain ⟨H1, s1, hH1⟩ : ∃ H1, Same H H1 ∧ upd (upd H e (.lst [])) tp (.tup [.int 0, .int 1]) = H1 := ⟨_, (same_new he).trans (same_new htp), rfl⟩
      rw [hH1]
      clear hH1
      refine ⟨_, rfl, a, _, rfl, .inl (s1.seq ha), _, rfl, ?_, ?_, ?_⟩
      · show -(2 ^ 62) ≤ (((a0 :: as').map V.ref).length : Int)
        simp only [List.length_map, List.length_cons]
        omega
      · show (((a0 :: as').map V.ref).length : Int) < 2 ^ 62
        simp only [List.length_map, List.length_cons]
        omega
      · have eN : (((((a0 :: as').map V.ref).length : Nat) : Int)).toNat = n + 1 := by
          simp only [List.length_map, List.length_cons]
          omega
        refine for_range (lo := 0) (n := (((((a0 :: as').map V.ref).length : Nat) : Int)).toNat) (fun i σ H' => ∃ (tot sg : Int) (x y : Option V), σ = [some (.ref a), some (.int tot), some (.int sg), x, y, none] ∧ Same H H' ∧ (sg = 1 ∨ sg = -1) ∧ tot + sg * M.E1 r0 (cs.drop i) (fun l => M.D (cs.take i ++ l) rows') = M.D cs (r0 :: rows')) ?_ ?_ ?_
        · refine ⟨0, 1, none, none, rfl, s1, .inl rfl, ?_⟩
          rw [List.drop_zero, Int.zero_add, Int.one_mul, M.D_cons]
          exact M.E1_congr _ _ _ _ fun l => by rw [List.take_zero, List.nil_append]
        · rintro i σ H' hi ⟨tot, sg, x, y, rfl, s2, hsg, inv⟩
          rw [eN] at hi
          obtain ⟨cc, hcc⟩ : ∃ cc, cs[i]? = some cc := ⟨_, List.getElem?_eq_getElem (by omega)⟩
          rw [E1_step r0 (fun l => M.D l rows') hcc] at inv
          rw [Int.zero_add]
          have ha2 := s2.seq ha
          have h02 := s2.seq h0
          have hix : atI (lineV cs r0) ((i : Nat) : Int) = some (.int (r0 cc)) := atI_nat (lineV_get hcc)
          refine ⟨_, rfl, a, _, _, .ref a0, rfl, rfl, ha2, atI_nat (j := 0) rfl, _, rfl, a0, _, _, .int (r0 cc), rfl, rfl, h02, hix, rfl, _, rfl, ?_⟩
          -- the turn's end: the sign changes
          have fin : ∀ (tot' : Int) (y' : Option V) (H2 : Hp) (N : L2.St → Hp → Prop), Same H H2 → tot' = tot + sg * (r0 cc * M.D (cs.eraseIdx i) rows') → (∀ σ H', (∃ (tot sg : Int) (x y : Option V), σ = [some (.ref a), some (.int tot), some (.int sg), x, y, none] ∧ Same H H' ∧ (sg = 1 ∨ sg = -1) ∧ tot + sg * M.E1 r0 (cs.drop (i + 1)) (fun l => M.D (cs.take (i + 1) ++ l) rows') = M.D cs (r0 :: rows')) → N σ H') → N [some (.ref a), some (.int tot'), some (.int (0 - sg)), some (.int i), y', none] H2 := fun tot' y' H2 N s3 et hN => by
            refine hN _ _ ⟨tot', 0 - sg, _, _, rfl, s3, by omega, ?_⟩
            rw [et, ← inv]
            grind
          by_cases e0 : r0 cc = 0
          · rw [show (!decide (V.int (r0 cc) = V.int 0)) = false from by rw [e0]; rfl]
            refine iteF ⟨_, rfl, _, _, rfl, rfl, ?_⟩
            exact fin tot y H' (fun σ H' => _) s2 (by rw [e0]; omega) fun σ H' q => q
          · rw [show (!decide (V.int (r0 cc) = V.int 0)) = true from by
              have : ¬ (V.int (r0 cc) = V.int 0) := fun z => e0 (V.int.inj z)
              rw [decide_eq_false this]
              rfl]
            refine iteT ⟨_, rfl, 1, rfl, a, _, rfl, ha2, fun p hp => ⟨p, rfl, ⟨_, SqL.of upd_same⟩, fun Dd hDd => ?_⟩⟩
            have ecut : cutV ((a0 :: as').map V.ref) (some 1) none = as'.map V.ref := by
              rw [show (some (1 : Int)) = some ((1 : Nat) : Int) from rfl, cut_drop _ (by simp)]
              rfl
            have sp := s2.trans (same_new (o := .lst (cutV ((a0 :: as').map V.ref) (some 1) none)) hp)
            have hp1 : (upd H' p (.lst (cutV ((a0 :: as').map V.ref) (some 1) none))) p = some (.lst (as'.map V.ref)) := by rw [upd_same, ecut]
            have hDH : H Dd = none := sp.free hDd
            refine lc_list (K := K) (a := p) (xs := as'.map V.ref) (fun j H2 => Same (upd H' p (.lst (cutV ((a0 :: as').map V.ref) (some 1) none))) H2 ∧ ∃ bs : List Addr, H2 Dd = some (.lst (bs.map V.ref)) ∧ LnD H2 Dd bs (cs.eraseIdx i) (rows'.take j)) ?_ ?_ ?_ ?_
            · exact ⟨same_new hDd, [], upd_same, by rw [List.take_zero]; exact .nil⟩
            · exact fun j H2 _ q => SqL.of (q.1 _ _ hp1)
            · rintro j v H2 hj ⟨s3, bs, e3, l3⟩
              rw [List.getElem?_map] at hj
              obtain ⟨b, hb, rfl⟩ : ∃ b, as'[j]? = some b ∧ V.ref b = v := by
                cases e : as'[j]? with
                | none => rw [e] at hj; cases hj
                | some b => rw [e] at hj; exact ⟨b, rfl, Option.some.inj hj⟩
              obtain ⟨r, hr', hbr⟩ := paired_nth ht hb
              have hb3 := s3.seq (sp.seq hbr)
              refine ⟨rfl, ?_⟩
              refine iteT (B := Same (upd H' p (.lst (cutV ((a0 :: as').map V.ref) (some 1) none))) H2 ∧ ∃ bs : List Addr, H2 Dd = some (.lst (bs.map V.ref)) ∧ LnD H2 Dd bs (cs.eraseIdx i) (rows'.take (j + 1))) ?_
              refine ⟨_, rfl, _, rfl, i, rfl, b, _, rfl, hb3, fun p1 hp1' => ⟨_, rfl, _, rfl, _, _, rfl, rfl, _, rfl, b, _, rfl, (same_new hp1').seq hb3, fun p2 hp2 => ⟨p1, p2, _, _, rfl, rfl, (same_new hp2) _ _ upd_same, upd_same, ?_, fun p3 hp3 => ?_⟩⟩⟩
              · refine Nat.le_trans (Nat.add_le_add (cutV_length ..) (cutV_length ..)) ?_
                rw [lineV_length]
                exact Nat.le_trans (by omega : cs.length + cs.length ≤ 10) (by decide)
              · rw [cut_take _ (by rw [lineV_length]; omega), show ((i : Nat) : Int) + 1 = ((i + 1 : Nat) : Int) from rfl, cut_drop _ (by rw [lineV_length]; omega), lineV_erase] at *
                have s4 := ((same_new (o := .lst ((lineV cs r).take i)) hp1').trans (same_new (o := .lst ((lineV cs r).drop (i + 1))) hp2)).trans (same_new (o := .lst (lineV (cs.eraseIdx i) r)) hp3)
                have e4 := s4 _ _ e3
                refine ⟨_, e4, ?_, same_put (s3.trans s4) hDd, bs ++ [p3], by rw [upd_same, List.map_append]; rfl, ?_⟩
                · rw [List.length_map, Paired.length l3]
                  exact Nat.lt_of_le_of_lt (Nat.le_trans (List.length_take_le' ..) (by omega : rows'.length ≤ 4)) (by decide)
                · rw [take_snoc hr']
                  have nd3 : p3 ≠ Dd := (ne_of_none ((same_new (o := .lst ((lineV cs r).drop (i + 1))) hp2) _ _ ((same_new (o := .lst ((lineV cs r).take i)) hp1') _ _ e3)) hp3).symm
                  exact Paired.snoc (((l3.mono s4).put)) ⟨by rw [upd_ne nd3, upd_same], nd3⟩
            · rintro H2 ⟨s3, bs, e3, l3⟩
              rw [List.length_map, al1, ← r1, take_all] at l3
              have l3 := l3.lines (K := K)
              have sH := sp.trans s3
              have okd : LinesOk (cs.eraseIdx i) rows' n := ⟨r1, by rw [List.length_eraseIdx_of_lt (by omega), cl]; rfl, by omega, fun r hr c hc => ok.b r (List.mem_cons_of_mem _ hr) c (erase_mem hc)⟩
              have b0 := ok.b r0 List.mem_cons_self cc (List.mem_of_getElem? hcc)
              have bD := det_small okd
              refine ⟨_, rfl, _, rfl, _, rfl, a, _, _, .ref a0, rfl, rfl, sH.seq ha, atI_nat (j := 0) rfl, _, rfl, a0, _, _, .int (r0 cc), rfl, rfl, sH.seq h0, hix, _, _, rfl, rfl, ?_, _, rfl, Dd, bs, cs.eraseIdx i, rows', rfl, SqL.of e3, l3, okd, fun H3 s5 => ⟨_, _, rfl, rfl, ?_, _, _, rfl, rfl, _, rfl, _, _, rfl, rfl, ?_⟩⟩
              · refine wide_mul (a := 2) (b := 30) (by omega) (by omega) (by decide) (by decide) (by decide)
              · refine wide_mul (a := 40) (b := 100) ?_ bD (by decide) (by decide) (by decide)
                rcases hsg with h | h <;> rw [h] <;> omega
              · exact fin _ _ H3 (fun σ H' => _) (sH.trans s5) (by grind) fun σ H' q => q
        · rintro σ H' ⟨tot, sg, x, y, rfl, s2, hsg, inv⟩
          rw [eN] at inv
          rw [List.drop_of_length_le (by omega)] at inv
          have e2 : tot = M.D cs (r0 :: rows') := by
            have : M.E1 r0 [] (fun l => M.D (cs.take (n + 1) ++ l) rows') = 0 := rfl
            rw [this] at inv
            omega
          rw [← e2] at h
          exact ⟨_, rfl, h H' s2⟩
/-! K24D: ### entry, as the law has it -/
/-- the forms at fo: N lists of n ints, the k-th of F k -/
def FormsAt (K : PySem.W.Frag) (H : Hp) (fo : Addr) (n N : Nat) (F : Int → Nat → Int) : Prop := ∃ as : List Addr, SqL K H fo (as.map V.ref) ∧ as.length = N ∧ ∀ (i : Nat) (a : Addr), as[i]? = some a → SqL K H a (lineV (List.range n) (F i))
theorem FormsAt.same {H H' : Hp} {fo : Addr} {n N : Nat} {F : Int → Nat → Int} (h : FormsAt K H fo n N F) (s : Same H H') : FormsAt K H' fo n N F := by
  obtain ⟨as, h1, h2, h3⟩ := h
  exact ⟨as, s.seq h1, h2, fun i a e => s.seq (h3 i a e)⟩
/-- [forms[g at] for at in ks], ks in a tuple -/
theorem lc_forms {ca fo : Addr} {ks : List Int} {n N : Nat} {F : Int → Nat → Int} {g : Int → Int} {i : Nat} {te : TE} {σ : L2.St} {H : Hp} {D : Addr} {Qd : Hp → Prop} (hD : H D = none) (hc : SqT K H ca (ks.map V.int)) (hk : ks.length < sizeLine)
    (hf : FormsAt K H fo n N F) (hg : ∀ k ∈ ks, 0 ≤ g k ∧ g k < N) (hte : ∀ k ∈ ks, ∀ H', Same H H' → ∀ (a : Addr) (as : List Addr), SqL K H' fo (as.map V.ref) → as[(g k).toNat]? = some a → ∀ Q : VK, Q (.ref a) H' → te ((wipe σ [i]).set i (some (.int k))) H' Q)
    (hd : ∀ H' (bs : List Addr), Same H H' → H' D = some (.lst (bs.map V.ref)) → LinesAt K H' bs (List.range n) (ks.map fun k => F (g k)) → Qd H')
    (hw2 : ∀ x : V, wipe ((wipe σ [i]).set i (some x)) [i] = wipe σ [i]) :
    ∃ W : Nat → Nat → Hp → Prop, (∃ m, W 0 m (upd H D (.lst []))) ∧ ∀ j m H, W j m H →
      ((Itt K ca).stop j H ∧ Qd H) ∨ ((Itt K ca).go j H ∧ ∃ Nx : Hp → Prop, (∀ H', Nx H' → ∃ m', m' < m ∧ W (j + 1) m' H') ∧ ∀ x H', (Itt K ca).yld j H x H' → gName i x (wipe σ [i]) H' fun σ2 H2 => wipe σ2 [i] = wipe σ [i] ∧ tYes σ2 H2 fun b H3 =>
        if b = true then te σ2 H3 fun y H4 => ∃ acc, H4 D = some (.lst acc) ∧ acc.length < sizeLine ∧ Nx (upd H4 D (.lst (acc ++ [y]))) else Nx H3) := by
  obtain ⟨as, f1, f2, f3⟩ := hf
  refine lc_tup (K := K) (xs := ks.map V.int) (fun j H' => Same H H' ∧ ∃ bs : List Addr, H' D = some (.lst (bs.map V.ref)) ∧ Paired (fun b k => ∃ m : Nat, (m : Int) = g k ∧ as[m]? = some b) bs (ks.take j)) ⟨same_new hD, [], upd_same, by rw [List.take_zero]; exact .nil⟩ (fun j H' _ q => same_tup q.1 hc) ?_ ?_
  · rintro j x H' hj ⟨s1, bs, h1, h2⟩
    rw [List.getElem?_map] at hj
    obtain ⟨k, hk', rfl⟩ : ∃ y, ks[j]? = some y ∧ V.int y = x := by
      cases e : ks[j]? with
      | none => rw [e] at hj; cases hj
      | some y => rw [e] at hj; exact ⟨y, rfl, Option.some.inj hj⟩
    have hm := List.mem_of_getElem? hk'
    obtain ⟨g0, g1⟩ := hg k hm
    have hlt : (g k).toNat < as.length := by omega
    refine ⟨hw2 _, ?_⟩
    refine iteT (B := Same H H' ∧ ∃ bs : List Addr, H' D = some (.lst (bs.map V.ref)) ∧ Paired (fun b k => ∃ m : Nat, (m : Int) = g k ∧ as[m]? = some b) bs (ks.take (j + 1))) ?_
    refine hte k hm H' s1 _ as (s1.seq f1) (List.getElem?_eq_getElem hlt) _ ⟨_, h1, ?_, same_put s1 hD, bs ++ [as[(g k).toNat]'hlt], by rw [upd_same, List.map_append]; rfl, ?_⟩
    · rw [List.length_map, Paired.length h2]
      exact Nat.lt_of_le_of_lt (List.length_take_le' ..) hk
    · rw [take_snoc hk']
      exact Paired.snoc h2 ⟨(g k).toNat, by omega, List.getElem?_eq_getElem hlt⟩
  · rintro H' ⟨s1, bs, h1, h2⟩
    rw [List.length_map, take_all] at h2
    refine hd H' bs s1 h1 ?_
    unfold LinesAt
    clear hd hte hg hc hk h1
    induction h2 with
    | nil => exact .nil
    | cons a t ih =>
      obtain ⟨m, e1, e2⟩ := a
      refine .cons ?_ ih
      have z := s1.seq (f3 m _ e2)
      rw [e1] at z
      exact z
def spDetA (K : PySem.W.Frag) : Sp := fun vs H Q E => ∃ n, n ≤ 4 ∧ spDet K n vs H Q E
theorem ok_det {n : Nat} (F : Fun K "_law_determinant" "_law_determinant" s_l_determinant f fd) (Z : Bz mg) (hm : mg "_law_determinant" = some (.ref f)) (hk : PySem.W.keepIn K (.ref f) = true) (hb : Binds K fd ["_law_lines"] []) : ∀ n, FnOk P w K mg base (L2.CX P w) (n + 1) f fd ["_law_lines"] (spDet K n)
  | 0 => ok_det0 F Z
  | n + 1 => ok_det1 F Z ⟨f, fd, ok_det (n := n) F Z hm hk hb n, hm, hk, hb⟩
theorem ok_detA (F : Fun K "_law_determinant" "_law_determinant" s_l_determinant f fd) (Z : Bz mg) (hm : mg "_law_determinant" = some (.ref f)) (hk : PySem.W.keepIn K (.ref f) = true) (hb : Binds K fd ["_law_lines"] []) : FnOk P w K mg base (L2.CX P w) 5 f fd ["_law_lines"] (spDetA K) := by
  refine ⟨fun vs H Q E h => ?_, fun A outer s H args us vs Q E hr he hb' hv h => ?_⟩
  · obtain ⟨n, _, a, as, cs, rows, rfl, _⟩ := h
    rfl
  · obtain ⟨n, hn, h⟩ := h
    exact ((ok_det (n := 0) F Z hm hk hb n).mono (by omega : n + 1 ≤ 5)).run A outer s H args us vs Q E hr he hb' hv h
structure DEy (P : Program) (w : World) (K : PySem.W.Frag) (mg : Str → Option Value) (base : Heap) : Prop where
  law_determinant : Dn P w K mg base "_law_determinant" 5 ["_law_lines"] (spDetA K)
  law_low : Dn P w K mg base "_law_low" 2 ["_law_top", "_law_bottom"] spFrac
def swapP (p c k : Int) : Int := if k = c then p else k
structure FormsOk (n N : Nat) (F : Int → Nat → Int) (ks : List Int) : Prop where
  len : ks.length = n
  n4 : n ≤ 4
  rng : ∀ k ∈ ks, 0 ≤ k ∧ k < N
  b : ∀ k : Int, 0 ≤ k → k < (N : Int) → ∀ c : Nat, c < n → (F k c).natAbs ≤ 1000000
theorem FormsOk.lines {n N : Nat} {F : Int → Nat → Int} {ks : List Int} (o : FormsOk n N F ks) {g : Int → Int} (hg : ∀ k ∈ ks, 0 ≤ g k ∧ g k < N) : LinesOk (List.range n) (ks.map fun k => F (g k)) n := by
  refine ⟨by rw [List.length_map]; exact o.len, List.length_range, o.n4, fun r hr c hc => ?_⟩
  obtain ⟨k, hk, rfl⟩ := List.mem_map.mp hr
  exact o.b _ (hg k hk).1 (hg k hk).2 c (List.mem_range.mp hc)
def entryF (n : Nat) (F : Int → Nat → Int) (ks : List Int) (p c : Int) : Fr := M.norm (M.D (List.range n) (ks.map fun k => F (swapP p c k))) (M.D (List.range n) (ks.map fun k => F k))
def spLEntry (K : PySem.W.Frag) : Sp := fun vs H Q _ => ∃ (fo ca : Addr) (p c : Int) (n N : Nat) (F : Int → Nat → Int) (ks : List Int), vs = [.ref fo, .ref ca, .int p, .int c] ∧ FormsAt K H fo n N F ∧ SqT K H ca (ks.map V.int) ∧ FormsOk n N F ks ∧ 0 ≤ p ∧ p < N ∧ M.D (List.range n) (ks.map fun k => F k) ≠ 0 ∧
  ∀ a H', Same H H' → H a = none → FrA K H' a (entryF n F ks p c) → Q (.ref a) H'
theorem ok_l_entry (F : Fun K "_law_entry" "_law_entry" s_l_entry f fd) (D : DEy P w K mg base) : FnOk P w K mg base (L2.CX P w) 6 f fd ["_law_forms", "_law_columns", "_law_place", "_law_column"] (spLEntry K) := by
  refine F.okX sc_l_entry (fun vs H Q E h => ?_) (fun cdv A outer s H vs Q E hr h => ?_)
  · obtain ⟨_, _, _, _, _, _, _, _, rfl, _⟩ := h
    rfl
  · obtain ⟨fo, ca, p, c, n, N, Fm, ks, rfl, hf, hc, ok, p0, p1, nz, h⟩ := h
    have nd := sc_l_entry.nd
    refine ⟨_, (pss_cons (ps_setLc (i := 4) (own := [("_law_at", 5)]) rfl nd rfl rfl (sw_true rfl rfl rfl (by decide +kernel)) (pi_tup (pv 1)) (blkOk_by (N := ["_law_forms", "_law_columns", "_law_place", "_law_column", "_law_lower", "_law_at", "_law_upper"]) (sc := defScope s_l_entry) (by decide +kernel)) (fun _ _ _ _ _ => (pg_name (i := 5) nd rfl (Or.inl rfl))) (fun _ _ _ _ _ => pts_nil) (fun _ _ _ _ _ => (pe_ix (r := rIxL K) ix_list (pv 0) (pv 5) (fun _ _ => rfl))))
      (pss_cons (ps_setLc (i := 6) (own := [("_law_at", 5)]) rfl nd rfl rfl (sw_true rfl rfl rfl (by decide +kernel)) (pi_tup (pv 1)) (blkOk_by (N := ["_law_forms", "_law_columns", "_law_place", "_law_column", "_law_lower", "_law_at", "_law_upper"]) (sc := defScope s_l_entry) (by decide +kernel)) (fun _ _ _ _ _ => (pg_name (i := 5) nd rfl (Or.inl rfl))) (fun _ _ _ _ _ => pts_nil) (fun _ _ _ _ _ => (pe_ix (r := rIxL K) ix_list (pv 0) (pe_ifExp (pt_cmpR op_eq (pv 5) (pv 3) (nomark _)) (pv 2) (pv 5)) (fun _ _ => rfl))))
      (pss_one (ps_ret (pe_dn D.law_low (hr.mono (by decide)) rfl passL (pa_cons (pe_dn D.law_determinant (hr.mono (by decide)) rfl passL (pa_cons (pv 6) pa_nil)) (pa_cons (pe_dn D.law_determinant (hr.mono (by decide)) rfl passL (pa_cons (pv 4) pa_nil)) pa_nil))))))), ?_⟩
    have kl : ks.length < sizeLine := Nat.lt_of_le_of_lt (by have := ok.len; have := ok.n4; omega : ks.length ≤ 4) (by decide)
    have hg2 : ∀ k ∈ ks, 0 ≤ swapP p c k ∧ swapP p c k < N := fun k hk => by
      unfold swapP
      split
      · exact ⟨p0, p1⟩
      · exact ok.rng k hk
    refine ⟨_, rfl, ca, rfl, ⟨_, hc⟩, fun D1 hD1 => lc_forms (K := K) (g := fun k => k) (i := 5) hD1 hc kl hf ok.rng (fun k hk H' _ a as e1 e2 Q q => ?_) (fun H1 bs1 s1 e1 l1 => ?_) (fun _ => rfl)⟩
    · have h0 := (ok.rng k hk).1
      refine ⟨_, rfl, _, rfl, fo, _, _, .ref a, rfl, rfl, e1, ?_, q⟩
      rw [show k = ((k.toNat : Nat) : Int) from by omega]
      refine atI_nat ?_
      rw [List.getElem?_map, e2]
      rfl
    · refine ⟨_, rfl, ca, rfl, ⟨_, same_tup s1 hc⟩, fun D2 hD2 => lc_forms (K := K) (g := swapP p c) (i := 5) hD2 (same_tup s1 hc) kl (hf.same s1) hg2 (fun k hk H' _ a as e3 e4 Q q => ?_) (fun H2 bs2 s2 e2 l2 => ?_) (fun _ => rfl)⟩
      · have h0 := (hg2 k hk).1
        have hat : atI (as.map V.ref) (swapP p c k) = some (.ref a) := by
          rw [show swapP p c k = (((swapP p c k).toNat : Nat) : Int) from by omega]
          refine atI_nat ?_
          rw [List.getElem?_map, e4]
          rfl
        refine ⟨_, rfl, _, rfl, _, rfl, rfl, _, rfl, ?_⟩
        by_cases e : k = c
        · rw [show decide (V.int k = V.int c) = true from by rw [e]; simp]
          have : swapP p c k = p := if_pos e
          rw [this] at hat
          exact iteT ⟨_, rfl, fo, _, _, .ref a, rfl, rfl, e3, hat, q⟩
        · rw [show decide (V.int k = V.int c) = false from decide_eq_false (fun z => e (V.int.inj z))]
          have : swapP p c k = k := if_neg e
          rw [this] at hat
          exact iteF ⟨_, rfl, fo, _, _, .ref a, rfl, rfl, e3, hat, q⟩
      · have ok1 := ok.lines (g := fun k => k) ok.rng
        have ok2 := ok.lines hg2
        refine ⟨_, rfl, n, ok.n4, D2, bs2, List.range n, _, rfl, SqL.of e2, l2, ok2, fun H3 s3 => ⟨_, rfl, n, ok.n4, D1, bs1, List.range n, _, rfl, SqL.of (s3 _ _ (s2 _ _ e1)), (l1.same s2).same s3, ok1, fun H4 s4 => ⟨_, _, rfl, nz, ?_, fun a ha => ?_⟩⟩⟩
        · exact Nat.lt_of_lt_of_le (det_small ok1) (Nat.pow_le_pow_right (by decide) (by decide))
        · have sf := ((s1.trans s2).trans s3).trans s4
          exact h a _ (same_put sf (sf.free ha)) (sf.free ha) (SqT.of upd_same)
end
end K24
/-! K24G: Defs that know that nothing is being shown (for repr); repr, sorted, != of nested data. -/
namespace K24
open PySem PySem.Spec PyProof.Rows L2
/-- as FnOk, where no repr is under way -/
structure FnG (P : Program) (w : World) (K : PySem.W.Frag) (mg : Str → Option Value) (base : Heap) (CX : CXT) (k : Nat) (f : Addr) (fd : FuncData) (ps : List Str) (sp : Sp) : Prop where
  len : ∀ vs H Q E, sp vs H Q E → vs.length = ps.length
  run : ∀ (A : Around) (outer : List Env) (s : Shared) (H : Hp) (args : Args) (us : List Value) (vs : List V) (Q : VK) (E : XK), Room k A → A.guards = some [] → Env0 P w K mg base A outer s H → BindsTo s fd args (ps.zip us) → Vals vs us → sp vs H Q E →
    codeAny (model P w) A (.call (.ref f) args) (CR CX outer P w H s Q E) s
structure DnG (P : Program) (w : World) (K : PySem.W.Frag) (mg : Str → Option Value) (base : Heap) (x : Str) (k : Nat) (ps : List Str) (sp : Sp) : Prop where
  ex : ∃ (f : Addr) (fd : FuncData), FnG P w K mg base (L2.CX P w) k f fd ps sp ∧ mg x = some (.ref f) ∧ PySem.W.keepIn K (.ref f) = true ∧ Binds K fd ps []
section
variable {P : Program} {w : World} {K : PySem.W.Frag} {mg : Str → Option Value} {base : Heap}
theorem okG {x qual : Str} {st : Stmt} {f : Addr} {fd : FuncData} {N ps : List Str} {k : Nat} {sp : Sp} (F : Fun K x qual st f fd) (S : FnScope N ps (defScope st)) (len : ∀ vs H Q E, sp vs H Q E → vs.length = ps.length)
    (hbody : ∀ (cdv : Value) (A : Around) (outer : List Env) (s : Shared) (H : Hp) (vs : List V) (Q : VK) (E : XK), Room k (A.deeper (envOfC qual (defScope st) s.heap.objs.size f cdv)) → (A.deeper (envOfC qual (defScope st) s.heap.objs.size f cdv)).guards = some [] → sp vs H Q E →
      ∃ t, PSs (cxOf (L2.CX P w) P w K mg base N qual (defScope st) f cdv A outer s H E) (defBody st) t ∧ t { nx := fun _ H' => Q .non H', rt := Q } (start N vs) H) : FnG P w K mg base (L2.CX P w) (k + 1) f fd ps sp := by
  obtain ⟨oc, od, kV, doc, pm, an, cdv, ct, osl, rfl, lk, hcd⟩ := F.ex
  refine ⟨len, fun A outer s H args us vs Q E hr hg he hb hv h => ?_⟩
  exact LamX.run_ofS lk hcd S hr he hb hv (len _ _ _ _ h) fun hr' => hbody cdv A outer s H vs Q E hr' hg h
end
section
variable {X : Cx} {CX : CXT} {x : Str} {k : Nat} {f : Addr} {fd : FuncData} {ps : List Str} {sp : Sp} {E : XK} {e : Expr} {es : List Expr} {t : TA} {p pos : Pos}
theorem run_fnG {pins : List (Addr × Obj)} {σ : L2.St} {H : Hp} {s : Shared} {Q : VK} {us : List Value} {vs : List V} (F : FnG X.prog X.w X.K X.mg X.base CX k f fd ps sp) (hr : Room k X.A) (hgd : X.A.guards = some []) (hb : Binds X.K fd ps []) (hx : Passes CX X E)
    (I : L2.Inv X pins σ H s) (r : Vals vs us) (h : sp vs H Q E) : wpAny (model X.prog X.w) X.A (call (.ref f) us) (EP X pins σ Q) X.xe s := by
  have hl : (us ++ []).length = ps.length := by rw [List.append_nil, ← r.length]; exact F.len _ _ _ _ h
  have hb' := hb s us I.kIn hl
  rw [List.append_nil] at hb'
  refine wpAny_call (codeAny_mono (F.run X.A X.stack s H ⟨us, []⟩ us vs Q E hr hgd I.env0 hb' r h) fun r s' hq => ?_)
  cases r with
  | error e => exact hx pins σ H s e s' I hq
  | ok fl =>
    cases fl with
    | ret u => exact I.after hq
    | next => exact False.elim hq
    | brk => exact False.elim hq
    | cont => exact False.elim hq
theorem pe_dnG (D : DnG X.prog X.w X.K X.mg X.base x k ps sp) (hr : Room k X.A) (hgd : X.A.guards = some []) (hg : Gl X x) (hx : Passes (L2.CX X.prog X.w) X E) (ha : PA X (e :: es) t)
    (hdb : (x == ("__debug__" : Str)) = false := by decide) (he : starEach (e :: es) X.env = (false, eval e X.env) :: starEach es X.env := by rfl) (hpl : (backTo pos (starEach es X.env)).any (·.1) = false := by rfl) :
    PE X (.Call (.Name x p) (e :: es) [] pos) (tCall sp [] E t) := by
  obtain ⟨f, fd, F, hm, hk, hb⟩ := D.ex
  refine ⟨fun pins s σ H Q I h => ?_⟩
  refine wpAny_Call_Name_kw (ld_glob I hg hm ?_ hdb)
  refine PySem.W.callWith_K (h₀ := X.base) I.ok.mod.kin hk (thn (ha.run pos pins s σ H _ I h) fun us s1 ⟨vs, H1, I1, r, q⟩ => ⟨I1.kIn, ?_⟩) he hpl
  have q : sp (vs ++ []) H1 Q E := q
  rw [List.append_nil] at q
  exact run_fnG F hr hgd hb hx I1 r q
/-! K24G: ### repr of nested data -/
def rRepr (K : PySem.W.Frag) : List V → Hp → VK → Prop := fun xs H Q => ∃ (a : Addr) (d : PyData), xs = [.ref a] ∧ L2.Dp K H (.ref a) d ∧ d.showable = true ∧ d.hasDict = false ∧ d.depth ≤ 20 ∧ d.shown.length ≤ sizeLine ∧ Q (.str d.shown) H
theorem call_reprD (hgd : X.A.guards = some []) (hu : X.A.units + 64 < cLine) : CallR X (.builtin "repr") (rRepr X.K) := by
  intro pins s σ H xs us Q I r h
  obtain ⟨a, d, rfl, hd, sh, nd, dp, sz, q⟩ := h
  obtain ⟨u, rfl, ru⟩ := vals1 r
  obtain ⟨as, rd⟩ := L2.Dp.reads I d (.ref a) u hd ru
  obtain rfl : u = Value.ref a := ru
  refine repr_of_reads' rd sh (PyData.noDict_hsm nd) hgd (by omega) (fun _ _ e => e) (fun h' u tk hk => ?_) sz
  exact ⟨.str d.shown, H, I.kept (t' := tk) hk, ⟨_, rfl⟩, q⟩
/-! K24G: ### sorted of data -/
/-- items with the data they read as -/
def rSortD (K : PySem.W.Frag) : List V → Hp → VK → Prop := fun xs H Q => ∃ (a : Addr) (bs : List (V × PyData)), xs = [.ref a] ∧ SqL K H a (bs.map (·.1)) ∧ (∀ b ∈ bs, L2.Dp K H b.1 b.2) ∧ PySem.W.AllAlike (bs.map (·.2)) ∧ PySem.W.Sortable (bs.map (·.2)) ∧ (∀ b ∈ bs, b.2.depth ≤ 20) ∧
  ∀ p, H p = none → Q (.ref p) (upd H p (.lst ((bs.mergeSort (PySem.W.dataLe false (·.2))).map (·.1))))
theorem each_of {K : PySem.W.Frag} : ∀ {bs : List (V × PyData)} {its : List Value}, Vals (bs.map (·.1)) its → PySem.W.EachIs (fun u b => L2.RelV b.1 u) its bs
  | [], [], _ => .nil
  | b :: r, u :: q, .cons x t => .cons x (each_of (K := K) t)
theorem each_vals : ∀ {bs : List (V × PyData)} {out : List Value}, PySem.W.EachIs (fun u b => L2.RelV b.1 u) out bs → Vals (bs.map (·.1)) out
  | _, _, .nil => .nil
  | _, _, .cons x t => .cons x (each_vals t)
theorem each_imp {α β : Type} {R S : α → β → Prop} : ∀ {l : List α} {m : List β}, PySem.W.EachIs R l m → (∀ a b, b ∈ m → R a b → S a b) → PySem.W.EachIs S l m
  | _, _, .nil, _ => .nil
  | _, _, .cons x t, f => .cons (f _ _ List.mem_cons_self x) (each_imp t fun a b hb r => f a b (List.mem_cons_of_mem _ hb) r)
theorem cr_sortD (hu : X.A.units + 64 < cLine) : CallR X (.builtin "sorted") (rSortD X.K) := by
  intro pins s σ H vs us Q I r h
  obtain ⟨a, bs, rfl, hs, hd, al, so, dp, q⟩ := h
  obtain ⟨its, rv, hl, hz⟩ := I.list hs
  obtain ⟨u, rfl, ru⟩ := vals1 r
  obtain rfl : u = Value.ref a := ru
  have e := each_of (K := X.K) rv
  refine PySem.W.sorted_data (enc := (·.2)) hl.isList e (each_imp e fun u b hb rr => L2.Dp.reads I b.2 b.1 u (hd b hb) rr) al so (by rw [List.length_map] at hz; exact hz) (fun b hb => ?_) fun out hlen ho => ?_
  · have := dp b hb
    omega
  · obtain ⟨n, hn⟩ := sortedAll_at s.heap its (List.toArray out)
    have rv2 := each_vals ho
    refine ⟨.ref (s.heap.objs.size + 1), upd H (s.heap.objs.size + 1) (.lst ((bs.mergeSort (PySem.W.dataLe false (·.2))).map (·.1))), I.laid (t' := s.toks) (fun b o eb => sortedAll_old eb) (Nat.le_succ _) ⟨?_, out, n, rv2, hn⟩, rfl, q _ (I.hok.fresh (Nat.le_succ _))⟩
    rw [List.length_map, List.length_mergeSort]
    rw [List.length_map] at hz
    exact hz
/-! K24G: ### dicts of data compared -/
def rNeDD (K : PySem.W.Frag) : R2 := fun x y H Q => ∃ a b ks ls, x = .ref a ∧ y = .ref b ∧ H a = some (.dK ks) ∧ H b = some (.dK ls) ∧ ks.length = ls.length ∧ (∀ p ∈ ks, ∃ q d, valV ls p.1 = some q ∧ L2.Dp K H p.2 d ∧ L2.Dp K H q d ∧ SeqAt.shaped d = true ∧ PyData.eqv d d = true) ∧ Q (.bl false) H
theorem hits_data {K : PySem.W.Frag} {pins : List (Addr × Obj)} {σ : L2.St} {H : Hp} {s : Shared} (I : L2.Inv X pins σ H s) (hK : X.K = K) (hu : X.A.in1.units + 64 < cLine) {kvs : List (Key × V)} {vb : List (Key × Value)} (rb : KV kvs vb) {ks : List (Key × V)} {va : List (Key × Value)} (ra : KV ks va) :
    (∀ p ∈ ks, ∃ q d, valV kvs p.1 = some q ∧ L2.Dp K H p.2 d ∧ L2.Dp K H q d ∧ SeqAt.shaped d = true ∧ PyData.eqv d d = true) → PySem.W.KeqHits X.A.in1 s vb va true := by
  subst hK
  unfold KV at ra
  induction ra with
  | nil => intro _; exact .nil
  | @cons p q ps qs h t ih =>
    intro hp
    obtain ⟨h1, h2⟩ := h
    obtain ⟨v2, d, e, d1, d2, sh, ev⟩ := hp p List.mem_cons_self
    have rr : RelO (some v2) (valueAt vb p.1) := by rw [← e]; exact rb.val p.1
    obtain ⟨y, hy, ry⟩ := rr.some_of
    obtain ⟨k, v⟩ := q
    have h1' : p.1 = k := h1
    rw [h1'] at hy
    obtain ⟨as1, r1⟩ := L2.Dp.reads I d p.2 v d1 h2
    obtain ⟨as2, r2⟩ := L2.Dp.reads I d v2 y d2 ry
    have eq := PySem.W.keq_at (A := X.A) r1 r2 sh sh hu
    rw [ev] at eq
    show PySem.W.KeqHits X.A.in1 s vb ((k, v) :: qs) (true && true)
    exact .hit hy eq (ih fun p' hm => hp p' (List.mem_cons_of_mem _ hm))
theorem op_neDD (hu : X.A.units + 65 < cLine) : OpR X (compareOp .NotEq) (rNeDD X.K) := by
  intro pins s σ H x y v u Q I rx ry h
  obtain ⟨a, b, ks, ls, rfl, rfl, ea, eb, hlen, hp, q⟩ := h
  obtain rfl : v = Value.ref a := rx
  obtain rfl : u = Value.ref b := ry
  obtain ⟨_, ya, va, ra, da⟩ := (show ObjOk X.prog X.w H s.heap a (.dK ks) from I.hok a _ ea)
  obtain ⟨_, yb, vb, rb, db⟩ := (show ObjOk X.prog X.w H s.heap b (.dK ls) from I.hok b _ eb)
  have hl : va.length = vb.length := by rw [← ra.length, ← rb.length]; exact hlen
  exact PySem.W.keq_ne (knd := mixKind X.prog X.w) (r := true) ya yb da db (by omega) (fun _ => hits_data I rfl (by show X.A.units + 1 + 64 < cLine; omega) rb ra hp) (fin_bl I q (by simp [hl]))
end
end K24
/-! K24S: The tables of the law, in plain Lean: what holds of each and stays so. -/
namespace K24
structure LawT (n N : Nat) (F : Int → Nat → Int) (T : Tab) : Prop where
  ok : T.Ok
  len : T.spans.length = N
  cl : T.cols.length = n
  n4 : n ≤ 4
  n1 : 1 ≤ n
  bn : T.basis ≠ []
  N8 : N ≤ 8
  many : T.many = (n : Int)
  sys : M.Sys n F T.cols T.basis T.E T.unit
  zero : ∀ c ∈ T.cols, T.hv c = (0, 1)
  free : ∀ i : Nat, i < N → T.spans[i]? = some (none, none)
  bd : ∀ k : Int, 0 ≤ k → k < (N : Int) → ∀ c : Nat, c < n → (F k c).natAbs ≤ 1000000
theorem split_at {l : List Int} {c : Int} (h : c ∈ l) : ∃ l1 l2, l = l1 ++ c :: l2 := List.append_of_mem h
theorem filter_mid {l1 l2 : List Int} {c : Int} (n : (l1 ++ c :: l2).Nodup) : ((l1 ++ c :: l2).filter fun j => decide (j ≠ c)) = l1 ++ l2 := by
  obtain ⟨h1, h2, _⟩ := M.nodup_mid n
  rw [List.filter_append, List.filter_cons_of_neg (by simp)]
  rw [List.filter_eq_self.mpr (fun a ha => decide_eq_true (show a ≠ c from fun z => h1 (by rw [← z]; exact ha))), List.filter_eq_self.mpr (fun a ha => decide_eq_true (show a ≠ c from fun z => h2 (by rw [← z]; exact ha)))]
theorem sys_basis {n : Nat} {F : Int → Nat → Int} {cols b b' : List Int} {E : Int → Int → Int} {u : Int} (S : M.Sys n F cols b E u) (h : ∀ k ∈ b', k ∈ b) : M.Sys n F cols b' E u := ⟨S.nd, S.pos, fun p hp => S.dj p (h p hp), S.det, fun p hp => S.rel p (h p hp)⟩
theorem map_swap {l1 l2 : List Int} {c p : Int} (F : Int → Nat → Int) (n : (l1 ++ c :: l2).Nodup) : ((l1 ++ c :: l2).map fun k => F (swapP p c k)) = l1.map F ++ F p :: l2.map F := by
  obtain ⟨h1, h2, _⟩ := M.nodup_mid n
  rw [List.map_append, List.map_cons]
  have e : ∀ l : List Int, c ∉ l → (l.map fun k => F (swapP p c k)) = l.map F := fun l hl => List.map_congr_left fun k hk => by
    unfold swapP
    rw [if_neg (show k ≠ c from fun z => hl (by rw [← z]; exact hk))]
  rw [e l1 h1, e l2 h2]
  congr 2
  unfold swapP
  rw [if_pos rfl]
section
variable {n N : Nat} {F : Int → Nat → Int} {T : Tab}
theorem forms_of {cols basis : List Int} {E : Int → Int → Int} {u : Int} {ks : List Int} (cl : cols.length = n) (n4 : n ≤ 4) (rc : ∀ k ∈ cols, 0 ≤ k ∧ k < (N : Int)) (bd : ∀ k : Int, 0 ≤ k → k < (N : Int) → ∀ c : Nat, c < n → (F k c).natAbs ≤ 1000000) (h : ks.Perm cols) : FormsOk n N F ks :=
  ⟨by rw [h.length_eq]; exact cl, n4, fun k hk => rc k (h.mem_iff.mp hk), bd⟩
theorem sys_small {cols basis : List Int} {E : Int → Int → Int} {u : Int} (S : M.Sys n F cols basis E u) (cl : cols.length = n) (n4 : n ≤ 4) (rc : ∀ k ∈ cols, 0 ≤ k ∧ k < (N : Int)) (rb : ∀ k ∈ basis, 0 ≤ k ∧ k < (N : Int))
    (bd : ∀ k : Int, 0 ≤ k → k < (N : Int) → ∀ c : Nat, c < n → (F k c).natAbs ≤ 1000000) : (∀ p ∈ basis, ∀ c ∈ cols, (E p c).natAbs < 2 ^ 100) ∧ u.natAbs < 2 ^ 100 := by
  constructor
  · intro p hp c hc
    obtain ⟨m1, m2, rfl⟩ := split_at hc
    obtain ⟨e1, s, hs, e2⟩ := S.entry hp (List.Perm.refl _)
    have hu : u ≠ 0 := by have := S.pos; omega
    have e3 : E p c * s = M.D (List.range n) (m1.map F ++ F p :: m2.map F) := by
      have h1 := e1
      rw [e2, ← Int.mul_assoc, Int.mul_comm] at h1
      exact M.cancel_left hu h1
    have fo : FormsOk n N F (m1 ++ c :: m2) := ⟨cl, n4, rc, bd⟩
    have hg : ∀ k ∈ m1 ++ c :: m2, 0 ≤ swapP p c k ∧ swapP p c k < (N : Int) := fun k hk => by
      unfold swapP
      split
      · exact rb p hp
      · exact rc k hk
    have := det_small (fo.lines hg)
    rw [map_swap F S.nd, ← e3] at this
    rcases hs with rfl | rfl
    · rwa [Int.mul_one] at this
    · rw [Int.mul_neg, Int.mul_one, Int.natAbs_neg] at this
      exact this
  · obtain ⟨s, hs, e⟩ := S.det
    have fo : FormsOk n N F cols := ⟨cl, n4, rc, bd⟩
    have := det_small (fo.lines (g := fun k => k) rc)
    have e' : M.D (List.range n) (cols.map fun k => F k) = s * u := e
    rw [e'] at this
    rcases hs with rfl | rfl
    · rwa [Int.one_mul] at this
    · rw [Int.neg_mul, Int.one_mul, Int.natAbs_neg] at this
      exact this
theorem LawT.forms (L : LawT n N F T) {ks : List Int} (h : ks.Perm T.cols) : FormsOk n N F ks := ⟨by rw [h.length_eq]; exact L.cl, L.n4, fun k hk => by
  have := (L.ok.mem k).mp (.inl (h.mem_iff.mp hk))
  rw [L.len] at this
  exact this, L.bd⟩
theorem LawT.det_ne (L : LawT n N F T) {ks : List Int} (h : ks.Perm T.cols) : ∃ s : Int, (s = 1 ∨ s = -1) ∧ M.D (List.range n) (ks.map fun k => F k) = s * T.unit := by
  obtain ⟨s, hs, e⟩ := L.sys.det
  obtain ⟨t, ht, e2⟩ := M.D_perm (h.map fun k => F k)
  refine ⟨t * s, ?_, ?_⟩
  · rcases hs with rfl | rfl <;> rcases ht with rfl | rfl <;> decide
  · rw [e2 (List.range n)]
    show t * M.D (List.range n) (T.cols.map F) = _
    rw [e, Int.mul_assoc]
/-- the entries, as the law has them -/
theorem LawT.entry (L : LawT n N F T) {ks : List Int} (h : ks.Perm T.cols) {p c : Int} (hp : p ∈ T.basis) (hc : c ∈ T.cols) :
    M.norm (T.E p c) T.unit = entryF n F ks p c ∧ (M.norm (T.E p c) T.unit).2 ∣ M.D (List.range n) (ks.map fun k => F k) ∧ 0 < (M.norm (T.E p c) T.unit).2 := by
  have hu : T.unit ≠ 0 := by have := L.ok.pos; omega
  obtain ⟨m1, m2, rfl⟩ := split_at (h.mem_iff.mpr hc)
  have nd : (m1 ++ c :: m2).Nodup := h.symm.nodup L.ok.nc
  obtain ⟨e1, s, hs, e2⟩ := L.sys.entry hp h
  have e2' : M.D (List.range n) ((m1 ++ c :: m2).map fun k => F k) = s * T.unit := e2
  have hd : M.D (List.range n) ((m1 ++ c :: m2).map fun k => F k) ≠ 0 := by
    rw [e2']
    rcases hs with rfl | rfl <;> omega
  obtain ⟨b0, b1⟩ := M.norm_bottom (a := T.E p c) hu
  refine ⟨?_, ?_, b0⟩
  · unfold entryF
    rw [map_swap F nd]
    refine M.norm_eq hu hd ?_
    have : M.D (List.range n) ((m1 ++ c :: m2).map F) = M.D (List.range n) ((m1 ++ c :: m2).map fun k => F k) := rfl
    rw [← this]
    rw [e1, Int.mul_comm]
  · rw [e2']
    exact Int.dvd_trans b1 (Int.dvd_mul_left s T.unit)
theorem betw_free (q : Fr) : betw q (none, none) = q := rfl
theorem up700 {x : Nat} (h : x < 2 ^ 100) : x < 2 ^ 700 := Nat.lt_of_lt_of_le h (Nat.pow_le_pow_right (by decide) (by decide))
theorem LawT.exch (L : LawT n N F T) {P Q : Int} (hP : P ∈ T.basis) (hQ : Q ∈ T.cols) (hz : T.E P Q ≠ 0) : LawT n N F (exT T P Q (0, 1)) := by
  obtain ⟨l1, l2, hl⟩ := split_at hQ
  have nd := L.ok.nc
  rw [hl] at nd
  have ec : exCols T.cols P Q = l1 ++ l2 ++ [P] := by
    unfold exCols
    rw [hl, filter_mid nd]
  have hPQ : P ≠ Q := fun z => L.ok.dj P hP (z ▸ hQ)
  have S := L.sys
  rw [hl] at S
  have S2 : M.Sys n F (exT T P Q (0, 1)).cols (exT T P Q (0, 1)).basis (exT T P Q (0, 1)).E (exT T P Q (0, 1)).unit := by
    show M.Sys n F (exCols T.cols P Q) ((T.basis.filter fun j => decide (j ≠ P)) ++ [Q]) (M.exE T.E T.unit P Q) ((T.E P Q).natAbs : Int)
    rw [ec]
    refine sys_basis (S.exch hP hz) fun k hk => ?_
    rcases List.mem_append.mp hk with h | h
    · exact List.mem_cons_of_mem _ h
    · rw [List.mem_singleton.mp h]
      exact List.mem_cons_self
  have cl : (exT T P Q (0, 1)).cols.length = n := by
    show (exCols T.cols P Q).length = n
    rw [ec, ← L.cl, hl]
    simp
  have nb : ((T.basis.filter fun j => decide (j ≠ P)) ++ [Q]).Nodup := by
    rw [List.nodup_append]
    refine ⟨L.ok.nb.filter _, List.nodup_cons.mpr ⟨List.not_mem_nil, List.nodup_nil⟩, fun a ha b hb e => ?_⟩
    rw [List.mem_singleton.mp hb] at e
    exact L.ok.dj a (List.mem_filter.mp ha).1 (e ▸ hQ)
  have mem : ∀ k, k ∈ (exT T P Q (0, 1)).cols ∨ k ∈ (exT T P Q (0, 1)).basis ↔ 0 ≤ k ∧ k < ((exT T P Q (0, 1)).spans.length : Nat) := fun k => by
    show k ∈ exCols T.cols P Q ∨ k ∈ (T.basis.filter fun j => decide (j ≠ P)) ++ [Q] ↔ 0 ≤ k ∧ k < (T.spans.length : Int)
    rw [← L.ok.mem k]
    unfold exCols
    simp only [List.mem_append, List.mem_filter, List.mem_singleton, decide_eq_true_eq]
    by_cases h1 : k = P
    · subst h1
      simp [hP]
    · by_cases h2 : k = Q
      · subst h2
        simp [hQ]
      · simp [h1, h2]
  have rc : ∀ k ∈ (exT T P Q (0, 1)).cols, 0 ≤ k ∧ k < (N : Int) := fun k hk => by
    have := (mem k).mp (.inl hk)
    rw [← L.len]
    exact this
  have rb : ∀ k ∈ (exT T P Q (0, 1)).basis, 0 ≤ k ∧ k < (N : Int) := fun k hk => by
    have := (mem k).mp (.inr hk)
    rw [← L.len]
    exact this
  obtain ⟨sm1, sm2⟩ := sys_small S2 cl L.n4 rc rb L.bd
  refine ⟨⟨S2.nd, nb, S2.dj, S2.pos, mem, L.ok.few, fun p hp c hc => up700 (sm1 p hp c hc), up700 sm2⟩, L.len, cl, L.n4, L.n1, (fun z => by simp [exT] at z), L.N8, L.many, S2, fun c hc => ?_, L.free, L.bd⟩
  show (if c = P then (0, 1) else T.hv c) = (0, 1)
  by_cases e : c = P
  · rw [if_pos e]
  · rw [if_neg e]
    refine L.zero c ?_
    have hc : c ∈ exCols T.cols P Q := hc
    unfold exCols at hc
    rcases List.mem_append.mp hc with h | h
    · exact (List.mem_filter.mp h).1
    · exact absurd (List.mem_singleton.mp h) e
theorem norm_one {u : Int} (h : 0 < u) : M.norm 1 u = (1, u) := by
  unfold M.norm
  rw [M.sg_pos h, show Int.gcd 1 u = 1 from Int.one_gcd]
  simp
theorem acc_zero {hv : Int → Fr} {e : Int → Int} : ∀ {l : List Int}, (∀ c ∈ l, hv c = (0, 1)) → (∀ c ∈ l, (e c).natAbs < 2 ^ 700) → accT hv e l (0, 1) = some (0, 1)
  | [], _, _ => rfl
  | c :: r, h, hb => by
    rw [accT_cons, h c List.mem_cons_self]
    have hm : mulF (e c, 1) (0, 1) = (0, 1) := by
      unfold mulF M.norm
      simp [M.sg]
    have ha : addF (0, 1) (0, 1) = (0, 1) := by decide
    have ih := acc_zero (hv := hv) (e := e) (l := r) (fun x hx => h x (List.mem_cons_of_mem _ hx)) fun x hx => hb x (List.mem_cons_of_mem _ hx)
    have ok : okF (0, 1) = true := by decide +kernel
    rw [hm, ha, ih, ok]
    split <;> rfl
theorem LawT.value (L : LawT n N F T) {k : Int} (h0 : 0 ≤ k) (h1 : k < (N : Int)) : valT T k = some (0, 1) := by
  unfold valT
  by_cases hc : k ∈ T.cols
  · rw [if_pos hc, L.zero k hc]
  · have hb : k ∈ T.basis := ((L.ok.mem k).mpr ⟨h0, by rw [L.len]; exact h1⟩).resolve_left hc
    rw [if_neg hc, acc_zero L.zero (L.ok.eb k hb), norm_one L.ok.pos]
    have ok : okF (1, T.unit) = true := by
      have := L.ok.ub
      have hp := L.ok.pos
      unfold okF
      simp only [Bool.and_eq_true, decide_eq_true_eq]
      exact ⟨⟨Nat.one_lt_two_pow (by decide), Nat.lt_of_lt_of_le this (Nat.pow_le_pow_right (by decide) (by decide))⟩, by omega⟩
    have ok0 : okF (0, 1) = true := by decide +kernel
    show (if (okF (0, 1) && okF (1, T.unit)) = true then some (mulF (0, 1) (1, T.unit)) else none) = some (0, 1)
    rw [ok0, ok]
    have : mulF (0, 1) (1, T.unit) = (0, 1) := by
      unfold mulF M.norm
      have hp := L.ok.pos
      simp only [Int.zero_mul, Int.one_mul, Int.zero_ediv, M.sg_pos hp]
      rw [show Int.gcd 0 T.unit = T.unit.natAbs from Int.gcd_zero_left ..]
      rw [show ((T.unit.natAbs : Nat) : Int) * 1 = T.unit from by omega, Int.ediv_self (by omega)]
    rw [this]
    rfl
end
end K24
/-! K24H: same, entries_right, wander, led. -/
namespace K24
open PySem PySem.Spec PyProof.Rows L2
/-! K24H: ### how long a text of data is -/
theorem log_lt {i : Int} (h : i.natAbs < 2 ^ 1500) : i.natAbs.log2 < 1500 := PySem.Flt.log2_lt_of (by decide) h
theorem int_shown {i : Int} (h : i.natAbs < 2 ^ 1500) : (PyData.int i).shown.length ≤ 1501 := by
  simp only [PyData.shown]
  have := int_text_length_le (k := 1500) (by decide) (log_lt h)
  rw [PySem.ofString_length]
  exact this
theorem int_showable {i : Int} (h : i.natAbs < 2 ^ 1500) : (PyData.int i).showable = true := by
  simp only [PyData.showable, decide_eq_true_eq]
  have := log_lt h
  omega
theorem pair_shown (x y : PyData) : (PyData.tuple [x, y]).shown.length ≤ x.shown.length + y.shown.length + 4 := by
  simp only [PyData.shown, PyData.shownAll]
  show (("(" : Str) ++ (x.shown ++ ", " ++ y.shown) ++ ((")" : String) : Str)).length ≤ _
  rw [Str.length_append, Str.length_append, Str.length_append, Str.length_append]
  have e1 : (("(" : String) : Str).length = 1 := rfl
  have e2 : ((", " : String) : Str).length = 2 := rfl
  have e3 : ((")" : String) : Str).length = 1 := rfl
  omega
theorem textFrom_le (B : Nat) : ∀ (ts : List Str) (k : Nat) (acc : Str), (∀ t ∈ ts, t.length ≤ B) → (textFrom k acc ts).length ≤ acc.length + ts.length * (B + 2)
  | [], k, acc, _ => by show acc.length ≤ _; omega
  | t :: r, k, acc, h => by
    have ih := textFrom_le B r (k + 1) (acc ++ (if k > 0 then ", " else "" : String) ++ t) fun x hx => h x (List.mem_cons_of_mem _ hx)
    have e : (acc ++ (if k > 0 then ", " else "" : String) ++ t).length ≤ acc.length + 2 + t.length := by
      rw [Str.length_append, Str.length_append]
      have : ((if k > 0 then ", " else "" : String) : Str).length ≤ 2 := by split <;> decide
      omega
    have ht := h t List.mem_cons_self
    show (textFrom (k + 1) _ r).length ≤ _
    rw [List.length_cons, Nat.add_mul]
    omega
theorem list_shown {xs : List PyData} {B : Nat} (h : ∀ x ∈ xs, x.shown.length ≤ B) : (PyData.list xs).shown.length ≤ xs.length * (B + 2) + 2 := by
  have hs : ∀ xs : List PyData, PyData.shownAll xs = xs.map PyData.shown := by
    intro xs
    induction xs with
    | nil => rfl
    | cons x r ih => simp only [PyData.shownAll, ih, List.map_cons]
  simp only [PyData.shown]
  show (textFrom 0 "[" (PyData.shownAll xs) ++ (("]" : String) : Str)).length ≤ _
  rw [Str.length_append, hs]
  have := textFrom_le B (xs.map PyData.shown) 0 "[" (fun t ht => by
    obtain ⟨x, hx, rfl⟩ := List.mem_map.mp ht
    exact h x hx)
  rw [List.length_map] at this
  have e1 : (("[" : String) : Str).length = 1 := rfl
  have e2 : (("]" : String) : Str).length = 1 := rfl
  omega
def frD (q : Fr) : PyData := .tuple [.int q.1, .int q.2]
theorem frD_ok {q : Fr} (h : Sm q) : (frD q).showable = true ∧ (frD q).hasDict = false ∧ (frD q).depth ≤ 2 ∧ (frD q).shown.length ≤ 3006 := by
  refine ⟨?_, by simp [frD, PyData.hasDict, PyData.hasDictAll], by simp [frD, PyData.depth, PyData.depthAll], ?_⟩
  · simp only [frD, PyData.showable, PyData.showableAll, Bool.and_true, Bool.and_eq_true]
    have h1 := int_showable h.1
    have h2 := int_showable h.2
    simp only [PyData.showable] at h1 h2
    exact ⟨h1, h2⟩
  · have := pair_shown (.int q.1) (.int q.2)
    have h1 := int_shown h.1
    have h2 := int_shown h.2
    unfold frD
    omega
theorem frD_dp {K : PySem.W.Frag} {H : Hp} {a : Addr} {q : Fr} (h : FrA K H a q) : L2.Dp K H (.ref a) (frD q) := .tup h (.cons (.int _) (.cons (.int _) .nil))
theorem frD_shaped (q : Fr) : SeqAt.shaped (frD q) = true := shaped_intsT [q.1, q.2]
theorem frD_eqv (q : Fr) : PyData.eqv (frD q) (frD q) = true := by simp [frD, PyData.eqv, PyData.eqvAll]
section
variable {P : Program} {w : World} {K : PySem.W.Frag} {mg : Str → Option Value} {base : Heap} {f : Addr} {fd : FuncData} {cI cR C z : Addr}
/-- only equal ones are asked for -/
def spSame (K : PySem.W.Frag) : Sp := fun vs H Q _ => ∃ (a b : Addr) (q : Fr), vs = [.ref a, .ref b] ∧ FrA K H a q ∧ FrA K H b q ∧ Sm q ∧ Q (.bl true) H
theorem ok_l_same (F : Fun K "_law_same" "_law_same" s_l_same f fd) (Z : Bz mg) : FnG P w K mg base (L2.CX P w) 1 f fd ["_law_told", "_law_due"] (spSame K) := by
  refine okG F sc_l_same (fun vs H Q E h => ?_) (fun cdv A outer s H vs Q E hr hgd h => ?_)
  · obtain ⟨a, b, q, rfl, _⟩ := h
    rfl
  · obtain ⟨a, b, q, rfl, ha, hb, sq, h⟩ := h
    refine ⟨_, (pss_one (ps_ret (pe_and (pe_cmpR (op_eqD hr.units) (pv 0) (pv 1) (nomark _)) (pe_one (pe_cmpR op_eq (pe_callB (call_reprD hgd hr.units) rfl Z.repr_ (by decide +kernel) (pa_cons (pv 0) pa_nil)) (pe_callB (call_reprD hgd hr.units) rfl Z.repr_ (by decide +kernel) (pa_cons (pv 1) pa_nil)) (nomark _)))))), ?_⟩
    obtain ⟨s1, s2, s3, s4⟩ := frD_ok sq
    have sz : (frD q).shown.length ≤ sizeLine := Nat.le_trans s4 (by decide)
    refine ⟨_, rfl, _, rfl, _, _, frD_dp ha, frD_dp hb, frD_shaped q, frD_shaped q, _, rfl, ?_⟩
    rw [frD_eqv]
    refine iteT ⟨_, rfl, a, _, rfl, frD_dp ha, s1, s2, by omega, sz, _, rfl, b, _, rfl, frD_dp hb, s1, s2, by omega, sz, rfl, ?_⟩
    rw [show decide (V.str (frD q).shown = V.str (frD q).shown) = true from by simp]
    exact h
/-! K24H: ### entries_right -/
theorem norm_small {a b : Int} {k : Nat} (ha : a.natAbs < 2 ^ k) (hb : b.natAbs < 2 ^ k) : (M.norm a b).1.natAbs < 2 ^ k ∧ (M.norm a b).2.natAbs < 2 ^ k :=
  ⟨Nat.lt_of_le_of_lt (Int.natAbs_ediv_le_natAbs ..) ha, Nat.lt_of_le_of_lt (Int.natAbs_ediv_le_natAbs ..) hb⟩
theorem sm_norm {a b : Int} (ha : a.natAbs < 2 ^ 700) (hb : b.natAbs < 2 ^ 700) : Sm (M.norm a b) := by
  obtain ⟨h1, h2⟩ := norm_small ha hb
  exact ⟨b1500 h1, b1500 h2⟩
theorem idx_sorted (n : Nat) : (idx n).Pairwise (· ≤ ·) := by
  unfold idx
  rw [List.pairwise_map]
  exact List.pairwise_lt_range.imp fun {a b} h => by omega
theorem LawT.all {n N : Nat} {F : Int → Nat → Int} {T : Tab} (L : LawT n N F T) : srt (srt T.basis ++ srt T.cols) = idx N := by
  refine (srt_uniq ?_ (idx_sorted N)).symm
  refine (List.perm_ext_iff_of_nodup (idx_nodup N) ?_).mpr fun k => ?_
  · rw [List.nodup_append]
    exact ⟨srt_nodup L.ok.nb, srt_nodup L.ok.nc, fun a ha b hb e => L.ok.dj a (srt_mem.mp ha) (by rw [e]; exact srt_mem.mp hb)⟩
  · rw [idx_mem, List.mem_append, srt_mem, srt_mem, or_comm, L.ok.mem k, L.len]
structure DRi (P : Program) (w : World) (K : PySem.W.Frag) (mg : Str → Option Value) (base : Heap) (C cR : Addr) : Prop where
  basis : Dp P w K mg base C "basis" 1 (spKeys K C Tab.basis)
  columns : Dp P w K mg base C "columns" 1 (spKeys K C Tab.cols)
  entry : Dm P w K mg base C "entry" 4 ["self", "place", "column"] (spEntry K C cR)
  law_determinant : Dn P w K mg base "_law_determinant" 5 ["_law_lines"] (spDetA K)
  law_entry : Dn P w K mg base "_law_entry" 6 ["_law_forms", "_law_columns", "_law_place", "_law_column"] (spLEntry K)
  law_same : DnG P w K mg base "_law_same" 1 ["_law_told", "_law_due"] (spSame K)
def spERight (K : PySem.W.Frag) (C : Addr) : Sp := fun vs H Q _ => ∃ L T fo n N F, vs = [.ref L.p, .ref fo] ∧ TabAt K C H L T ∧ LawT n N F T ∧ FormsAt K H fo n N F ∧ ∀ H', Same H H' → Q (.bl true) H'
theorem ok_l_entries_right (F0 : Fun K "_law_entries_right" "_law_entries_right" s_l_entries_right f fd) (c : TC K C) (Z : Bz mg) (D : DRi P w K mg base C cR) : FnG P w K mg base (L2.CX P w) 7 f fd ["_law_table", "_law_forms"] (spERight K C) := by
  refine okG F0 sc_l_entries_right (fun vs H Q E h => ?_) (fun cdv A outer s H vs Q E hr hgd h => ?_)
  · obtain ⟨L, T, fo, n, N, F, rfl, _⟩ := h
    rfl
  · obtain ⟨L, T, fo, n, N, F, rfl, t, lt, fm, h⟩ := h
    have nd := sc_l_entries_right.nd
    refine ⟨_, (pss_cons (ps_par (i := 2) (j := 3) rfl nd rfl rfl (by decide) rfl rfl (pa_cons (pe_dp (pv 0) D.basis (hr.mono (by decide))) (pa_cons (pe_dp (pv 0) D.columns (hr.mono (by decide))) pa_nil)) (by rfl))
      (pss_cons (ps_if (PW.pt (pw_or (pt_cmpR op_ne (pe_callB call_len_seq rfl Z.len_ PySem.boot_len (pa_cons (pv 3) pa_nil)) (pe_callB call_len_seq rfl Z.len_ PySem.boot_len (pa_cons (pe_ix (r := rIxL K) ix_list (pv 1) pe_int (fun _ _ => rfl)) pa_nil)) (nomark _)) (pw_or1 (pt_cmpR (op_neD hr.units) (pe_callB cr_sortedI rfl Z.sorted_ (by decide +kernel) (pa_cons (pe_callTy call_list_of rfl Z.list_ (by decide +kernel) (pa_cons (pe_op op_catT (pv 2) (pv 3)) pa_nil)) pa_nil)) (pe_listRg rfl rfl Z.list_ (prg_1 rfl Z.range_ (pe_callB call_len_seq rfl Z.len_ PySem.boot_len (pa_cons (pv 1) pa_nil)))) (nomark _))))) (pss_one (ps_ret pe_bl)) pss_nil)
      (pss_cons (ps_set (i := 4) nd rfl (Or.inl rfl) (pe_dn D.law_determinant (hr.mono (by decide)) rfl passL (pa_cons (pe_lc (own := [("_law_at", 5)]) rfl nd (pi_tup (pv 3)) (blkOk_by (N := ["_law_table", "_law_forms", "_law_basis", "_law_columns", "_law_below", "_law_at", "_law_place", "_law_column", "_law_told"]) (sc := defScope s_l_entries_right) (by decide +kernel)) (fun _ _ _ _ _ => (pg_name (i := 5) nd rfl (Or.inl rfl))) (fun _ _ _ _ _ => pts_nil) (fun _ _ _ _ _ => (pe_ix (r := rIxL K) ix_list (pv 1) (pv 5) (fun _ _ => rfl)))) pa_nil)))
      (pss_cons (ps_if (pt_cmpR op_eq (pv 4) pe_int (nomark _)) (pss_one (ps_ret pe_bl)) pss_nil)
      (pss_cons (ps_for (passes_of rfl) rfl (pi_tup (pv 2)) (pg_name (i := 6) nd rfl (Or.inl rfl)) (pss_one (ps_for (passes_of rfl) rfl (pi_tup (pv 3)) (pg_name (i := 7) nd rfl (Or.inl rfl)) (pss_cons (ps_set (i := 8) nd rfl (Or.inl rfl) (pe_dm (pv 0) D.entry (hr.mono (by decide)) passL (pa_cons (pv 6) (pa_cons (pv 7) pa_nil))))
      (pss_one (ps_if (PW.pt (pw_or (pt_not (pt_val (pe_dnG D.law_same (hr.mono (by decide)) hgd rfl passL (pa_cons (pv 8) (pa_cons (pe_dn D.law_entry (hr.mono (by decide)) rfl passL (pa_cons (pv 1) (pa_cons (pv 3) (pa_cons (pv 6) (pa_cons (pv 7) pa_nil))))) pa_nil))))) (pw_or1 (pt_cmpR op_ne (pe_op op_modN (pe_callTy call_int1 rfl Z.int_ (by decide +kernel) (pa_cons (pv 4) pa_nil)) (pe_ix (r := rIxT K) ix_tup (pv 8) pe_int (fun _ _ => rfl))) pe_int (nomark _))))) (pss_one (ps_ret pe_bl)) pss_nil))))))
      (pss_one (ps_ret pe_bl))))))), ?_⟩
    have ok := lt.ok
    have n4 := lt.n4
    have n1 := lt.n1
    have N8 := lt.N8
    have cn := lt.cl
    have cs := srt_length T.cols
    have bs := srt_length T.basis
    have b20 := ok.bl
    obtain ⟨as, f1, f2, f3⟩ := id fm
    refine ⟨_, rfl, _, _, _, rfl, t.ins, L, T, rfl, t, fun ba H1 s1 nb hba => ⟨_, rfl, _, _, _, rfl, (t.same s1).ins, L, T, rfl, t.same s1, fun ca H2 s2 nc hca => ⟨_, _, rfl, ?_⟩⟩⟩
    have s12 := s1.trans s2
    have fm2 := fm.same s12
    have nN : n < N := by
      have h1 : T.basis.length ≠ 0 := fun z => lt.bn (List.length_eq_zero_iff.mp z)
      have h2 := congrArg List.length lt.all
      rw [srt_length, List.length_append, srt_length, srt_length, idx_length] at h2
      omega
    obtain ⟨a0, ha0⟩ : ∃ a0, as[0]? = some a0 := ⟨_, List.getElem?_eq_getElem (by omega)⟩
    have hat0 : atI (as.map V.ref) ((0 : Nat) : Int) = some (.ref a0) := atI_nat (by rw [List.getElem?_map, ha0]; rfl)
    refine ⟨_, rfl, ca, _, rfl, .inr (SqT.of hca), _, rfl, fo, _, _, .ref a0, rfl, rfl, s12.seq f1, hat0, a0, _, rfl, .inl (s12.seq (f3 0 a0 ha0)), rfl, _, rfl, ?_⟩
    rw [show (!decide (V.int ((((srt T.cols).map V.int).length : Nat) : Int) = V.int ((lineV (List.range n) (F ((0 : Nat) : Int))).length : Int))) = false from by
      rw [List.length_map, lineV_length, List.length_range, cs, cn]
      simp]
    have szl : ((srt T.basis).map V.int).length + ((srt T.cols).map V.int).length ≤ sizeLine := by
      rw [List.length_map, List.length_map, bs, cs, cn]
      exact Nat.le_trans (by omega : T.basis.length + n ≤ 24) (by decide)
    have cne : (srt T.cols).map V.int ≠ [] := fun z => by
      have := congrArg List.length z
      rw [List.length_map, cs, cn] at this
      simp at this
      omega
    have bne : (srt T.basis).map V.int ≠ [] := fun z => by
      have := congrArg List.length z
      rw [List.length_map, bs] at this
      exact lt.bn (List.length_eq_zero_iff.mp this)
    refine iteF ⟨_, rfl, _, rfl, ba, ca, _, _, rfl, rfl, SqT.of (s2 _ _ hba), SqT.of hca, bne, szl, fun z => absurd z cne, fun _ pp hpp => ⟨pp, _, rfl, .inr (SqT.of upd_same), fun l1 hl1 => ?_⟩⟩
    rw [← List.map_append] at hl1 ⊢
    refine ⟨l1, _, rfl, SqL.of upd_same, fun ns p pm so hp => ?_⟩
    obtain rfl := (srt_uniq pm so).trans lt.all
    have s3 : Same H2 (upd (upd (upd H2 pp (.tup ((srt T.basis ++ srt T.cols).map V.int))) l1 (.lst ((srt T.basis ++ srt T.cols).map V.int))) p (.lst ((idx N).map V.int))) := ((same_new hpp).trans (same_new hl1)).trans (same_new hp)
    have erg : rgV 0 ((as.map V.ref).length : Int) = (idx N).map V.int := by
      unfold rgV idx
      rw [List.map_map, List.length_map, f2, show ((N : Int) - 0).toNat = N from by omega]
      exact List.map_congr_left fun i _ => by show V.int (0 + (i : Nat)) = V.int ((i : Nat) : Int); rw [Int.zero_add]
    refine ⟨_, rfl, fo, _, rfl, .inl ((s12.trans s3).seq f1), _, rfl, RgOk.of_le (by decide) (by rw [List.length_map, f2]; omega) (by decide) (by omega), fun l2 hl2 => ?_⟩
    rw [erg]
    have s4 := s3.trans (same_new (o := .lst ((idx N).map V.int)) hl2)
    refine ⟨_, _, .lst (SqL.of ((same_new hl2) _ _ upd_same)) (dp_ints _), .lst (SqL.of upd_same) (dp_ints _), shaped_ints _, shaped_ints _, _, rfl, ?_⟩
    rw [show PyData.eqv (.list ((idx N).map PyData.int)) (.list ((idx N).map PyData.int)) = true from by simp only [PyData.eqv, eqv_ints]; simp]
    refine iteF ?_
    obtain ⟨H4, hH4⟩ : ∃ H4, upd (upd (upd (upd H2 pp (.tup ((srt T.basis ++ srt T.cols).map V.int))) l1 (.lst ((srt T.basis ++ srt T.cols).map V.int))) p (.lst ((idx N).map V.int))) l2 (.lst ((idx N).map V.int)) = H4 := ⟨_, rfl⟩
    rw [hH4] at s4
    show tSeq _ _ _ _ _
    rw [hH4]
    clear hH4 s3
    have s04 : Same H H4 := s12.trans s4
    have hca4 := s4 _ _ hca
    have hba4 := s4 _ _ (s2 _ _ hba)
    have pc := srt_perm T.cols
    have fo4 := lt.forms pc
    -- below
    refine ⟨_, rfl, ca, rfl, ⟨_, SqT.of hca4⟩, fun D1 hD1 => lc_forms (K := K) (g := fun k => k) (i := 5) hD1 (SqT.of hca4) (by rw [cs, cn]; exact Nat.lt_of_le_of_lt n4 (by decide)) (fm.same s04) fo4.rng (fun k hk H' _ a as e1 e2 Q q => ?_) (fun H5 bs1 s5 e5 l5 => ?_) (fun _ => rfl)⟩
    · have h0 := (fo4.rng k hk).1
      refine ⟨_, rfl, _, rfl, fo, _, _, .ref a, rfl, rfl, e1, ?_, q⟩
      rw [show k = ((k.toNat : Nat) : Int) from by omega]
      refine atI_nat ?_
      rw [List.getElem?_map, e2]
      rfl
    · have lok := fo4.lines (g := fun k => k) fo4.rng
      refine ⟨n, n4, D1, bs1, List.range n, _, rfl, SqL.of e5, l5, lok, fun H6 s6 => ?_⟩
      obtain ⟨sg, hsg, ed⟩ := lt.det_ne pc
      have dne : M.D (List.range n) ((srt T.cols).map fun k => F k) ≠ 0 := by
        rw [ed]
        have := ok.pos
        rcases hsg with rfl | rfl <;> omega
      have s06 := (s04.trans s5).trans s6
      refine ⟨_, rfl, rfl, _, rfl, ?_⟩
      rw [show decide (V.int (M.D (List.range n) ((srt T.cols).map fun k => F k)) = V.int 0) = false from decide_eq_false (fun z => dne (V.int.inj z))]
      refine iteF ⟨_, rfl, ba, rfl, ⟨_, SqT.of ((s5.trans s6) _ _ hba4)⟩, for_tup (K := K) (xs := (srt T.basis).map V.int) (fun i σ H' => ∃ x y u v, σ = [some (.ref L.p), some (.ref fo), some (.ref ba), some (.ref ca), some (.int (M.D (List.range n) ((srt T.cols).map fun k => F k))), x, y, u, v] ∧ Same H6 H') ⟨_, _, _, _, rfl, Same.refl _⟩ ?_ ?_ ?_⟩
      · rintro i σ H' _ ⟨x, y, u, v, rfl, s7⟩
        exact SqT.of (s7 _ _ ((s5.trans s6) _ _ hba4))
      · rintro i pv σ H' hi ⟨x, y, u, v, rfl, s7⟩
        rw [List.getElem?_map] at hi
        obtain ⟨pl, hpl, rfl⟩ : ∃ pl, (srt T.basis)[i]? = some pl ∧ V.int pl = pv := by
          cases e : (srt T.basis)[i]? with
          | none => rw [e] at hi; cases hi
          | some y => rw [e] at hi; exact ⟨y, rfl, Option.some.inj hi⟩
        have hpb : pl ∈ T.basis := srt_mem.mp (List.mem_of_getElem? hpl)
        have rp := (ok.mem pl).mp (.inr hpb)
        rw [lt.len] at rp
        have hca7 := s7 _ _ ((s5.trans s6) _ _ hca4)
        refine ⟨_, rfl, ca, rfl, ⟨_, SqT.of hca7⟩, for_tup (K := K) (xs := (srt T.cols).map V.int) (fun i σ H'' => ∃ x u v, σ = [some (.ref L.p), some (.ref fo), some (.ref ba), some (.ref ca), some (.int (M.D (List.range n) ((srt T.cols).map fun k => F k))), x, some (.int pl), u, v] ∧ Same H6 H'') ⟨_, _, _, rfl, s7⟩ ?_ ?_ ?_⟩
        · rintro j σ H'' _ ⟨x, u, v, rfl, s8⟩
          exact SqT.of (s8 _ _ ((s5.trans s6) _ _ hca4))
        · rintro j cv σ H7 hj ⟨x, u, v, rfl, s8⟩
          rw [List.getElem?_map] at hj
          obtain ⟨cl, hcl, rfl⟩ : ∃ cl, (srt T.cols)[j]? = some cl ∧ V.int cl = cv := by
            cases e : (srt T.cols)[j]? with
            | none => rw [e] at hj; cases hj
            | some y => rw [e] at hj; exact ⟨y, rfl, Option.some.inj hj⟩
          have hcc : cl ∈ T.cols := srt_mem.mp (List.mem_of_getElem? hcl)
          have s08 := s06.trans s8
          have t8 := t.same s08
          obtain ⟨en1, en2, en3⟩ := lt.entry pc hpb hcc
          have smE := sm_norm (ok.eb pl hpb cl hcc) ok.ub
          refine ⟨_, rfl, L.p, _, _, rfl, t8.ins, rfl, _, rfl, _, rfl, L, T, _, "int", _, "int", rfl, t8, ok, .int _, .int _, (fun e => ?_), (fun _ e => ?_), fun i' j' e1 e2 _ _ ta hta => ?_⟩
          · have : (decide (0 ≤ pl) && decide (pl ∈ T.basis)) = false := e
            simp [hpb, rp.1] at this
          · have rc := fo4.rng cl (List.mem_of_getElem? hcl)
            have : (decide (0 ≤ cl) && decide (cl ∈ T.cols)) = false := e
            simp [hcc, rc.1] at this
          · cases e1
            cases e2
            have s9 := s8.trans (same_new (o := .tup [.int (M.norm (T.E pl cl) T.unit).1, .int (M.norm (T.E pl cl) T.unit).2]) hta)
            have s09 := s06.trans s9
            refine ⟨_, rfl, _, rfl, _, rfl, _, rfl, _, rfl, fo, ca, pl, cl, n, N, F, srt T.cols, rfl, fm.same s09, SqT.of (s9 _ _ ((s5.trans s6) _ _ hca4)), fo4, rp.1, rp.2, dne, fun du H9 s10 _ hdu => ?_⟩
            rw [← en1] at hdu
            have hta9 : FrA K H9 ta (M.norm (T.E pl cl) T.unit) := same_tup s10 (SqT.of upd_same)
            refine ⟨ta, du, _, rfl, hta9, hdu, smE, _, rfl, ?_⟩
            refine iteF ⟨_, rfl, .inl ⟨_, rfl, _, rfl, ta, _, _, _, rfl, rfl, hta9, atI_nat (j := 1) rfl, _, _, rfl, rfl, (by omega), rfl, _, rfl, ?_⟩⟩
            have em : (M.D (List.range n) ((srt T.cols).map fun k => F k)).fmod (M.norm (T.E pl cl) T.unit).2 = 0 := by
              rw [fmod_nat _ en3]
              exact Int.emod_eq_zero_of_dvd en2
            rw [show (!decide (V.int ((M.D (List.range n) ((srt T.cols).map fun k => F k)).fmod (M.norm (T.E pl cl) T.unit).2) = V.int 0)) = false from by rw [em]; rfl]
            refine iteF ?_
            exact ⟨_, _, _, rfl, s9.trans s10⟩
        · rintro σ H7 ⟨x, u, v, rfl, s8⟩
          exact ⟨_, _, _, _, rfl, s8⟩
      · rintro σ H7 ⟨x, y, u, v, rfl, s7⟩
        exact h H7 (s06.trans s7)
end
end K24
/-! K24Q: wander, led. -/
namespace K24
open PySem PySem.Spec PyProof.Rows L2
/-- what the layout L owns came from L0's or is new -/
structure Own (H0 : Hp) (L0 L : Lay) : Prop where
  p : L.p = L0.p
  fp : ∀ b ∈ L.fp, b ∈ L0.fp ∨ H0 b = none
  rows : ∀ b, L.rows b → L0.rows b ∨ b ∈ L0.fp ∨ H0 b = none
theorem Own.refl (H : Hp) (L : Lay) : Own H L L := ⟨rfl, fun b h => .inl h, fun b h => .inl h⟩
theorem Own.step {H0 H1 : Hp} {L0 L1 L2 : Lay} (o : Own H0 L0 L1) (g : Grow H1 L1 L2) (n : ∀ b, H1 b = none → H0 b = none ∨ b ∈ L0.fp) : Own H0 L0 L2 := by
  refine ⟨g.p.trans o.p, fun b hb => ?_, fun b hb => ?_⟩
  · rcases g.fp b hb with h | h
    · exact o.fp b h
    · rcases n b h with h | h
      · exact .inr h
      · exact .inl h
  · rcases g.rows b hb with h | h
    · exact o.rows b h
    · rcases n b h with h | h
      · exact .inr (.inr h)
      · exact .inr (.inl h)
/-- what an operation on a table does to the rest -/
structure Did (K : PySem.W.Frag) (C : Addr) (n N : Nat) (F : Int → Nat → Int) (more : List Addr) (H : Hp) (L : Lay) (H' : Hp) (L' : Lay) (T' : Tab) : Prop where
  keep : Keep (more ++ L.fp) H H'
  own : Own H L L'
  at_ : TabAt K C H' L' T'
  law : LawT n N F T'
theorem Did.same {K : PySem.W.Frag} {C : Addr} {n N : Nat} {F : Int → Nat → Int} {more : List Addr} {H H1 H2 : Hp} {L L' : Lay} {T' : Tab} (d : Did K C n N F more H L H1 L' T') (s : Same H1 H2) : Did K C n N F more H L H2 L' T' :=
  ⟨fun b o e nb => s _ _ (d.keep b o e nb), d.own, d.at_.same s, d.law⟩
/-- an exchange more -/
theorem Did.exch {K : PySem.W.Frag} {C : Addr} {n N : Nat} {F : Int → Nat → Int} {more : List Addr} {H H1 H2 : Hp} {L L1 L2 : Lay} {T1 : Tab} {P Q : Int} (d : Did K C n N F more H L H1 L1 T1) (hm : ∀ b ∈ more, H1 b ≠ none) (k : Keep L1.fp H1 H2) (g : Grow H1 L1 L2) (t : TabAt K C H2 L2 (exT T1 P Q (0, 1)))
    (hP : P ∈ T1.basis) (hQ : Q ∈ T1.cols) (hz : T1.E P Q ≠ 0) : Did K C n N F more H L H2 L2 (exT T1 P Q (0, 1)) := by
  refine ⟨fun b o e nb => k b o (d.keep b o e nb) fun hb => ?_, d.own.step g fun b hb => ?_, t, d.law.exch hP hQ hz⟩
  · rcases d.own.fp b hb with h | h
    · exact nb (List.mem_append_right _ h)
    · rw [e] at h
      cases h
  · by_cases h : b ∈ more ++ L.fp
    · rcases List.mem_append.mp h with h | h
      · exact absurd hb (hm b h)
      · exact .inr h
    · refine .inl ?_
      cases e : H b with
      | none => rfl
      | some o =>
        have := d.keep b o e h
        rw [hb] at this
        cases this
/-- two objects apart from a table -/
structure Away (o n : Addr) (L : Lay) : Prop where
  o1 : o ∉ L.fp
  n1 : n ∉ L.fp
  o2 : ¬ L.rows o
  n2 : ¬ L.rows n
theorem Away.own {o n : Addr} {H : Hp} {L L' : Lay} (a : Away o n L) (w : Own H L L') (h : HeapAt H o n) : Away o n L' := by
  have ho : H o ≠ none := by
    obtain ⟨⟨_, _, z, _⟩, _⟩ := h
    rw [z]
    intro z
    cases z
  have hn : H n ≠ none := by
    obtain ⟨⟨_, _, _, z, _⟩, _⟩ := h
    rw [z]
    intro z
    cases z
  refine ⟨fun h => ?_, fun h => ?_, fun h => ?_, fun h => ?_⟩
  · exact (w.fp _ h).elim a.o1 ho
  · exact (w.fp _ h).elim a.n1 hn
  · rcases w.rows _ h with h | h | h
    · exact a.o2 h
    · exact a.o1 h
    · exact ho h
  · rcases w.rows _ h with h | h | h
    · exact a.n2 h
    · exact a.n1 h
    · exact hn h
theorem Did.draw {K : PySem.W.Frag} {C : Addr} {n N : Nat} {F : Int → Nat → Int} {o nn : Addr} {H H1 H2 : Hp} {L L' : Lay} {T' : Tab} (d : Did K C n N F [o, nn] H L H1 L' T') (k : Keep [o, nn] H1 H2) (h : HeapAt H1 o nn) (a : Away o nn L') : Did K C n N F [o, nn] H L H2 L' T' :=
  ⟨fun b u e nb => k _ _ (d.keep b u e nb) fun hb => nb (List.mem_append_left _ hb), d.own, d.at_.keep k h.wr fun b hb => by
    rcases List.mem_cons.mp hb with rfl | hb
    · exact ⟨a.o1, a.o2⟩
    · rw [List.mem_singleton.mp hb]
      exact ⟨a.n1, a.n2⟩, d.law⟩
theorem heap_live {H : Hp} {o nn : Addr} (h : HeapAt H o nn) : ∀ b ∈ [o, nn], H b ≠ none := fun b hb z => heap_out h z hb
theorem sm01 : Sm (0, 1) := (okF_sm (q := (0, 1)) (by decide +kernel)).1
theorem LawT.inb {n N : Nat} {F : Int → Nat → Int} {T : Tab} (L : LawT n N F T) {k : Int} (h : k ∈ T.basis) : inB T.basis (.int k) = true := by
  have := (L.ok.mem k).mp (.inr h)
  show (decide (0 ≤ k) && decide (k ∈ T.basis)) = true
  simp [h, this.1]
theorem LawT.inc {n N : Nat} {F : Int → Nat → Int} {T : Tab} (L : LawT n N F T) {k : Int} (h : k ∈ T.cols) : inB T.cols (.int k) = true := by
  have := (L.ok.mem k).mp (.inl h)
  show (decide (0 ≤ k) && decide (k ∈ T.cols)) = true
  simp [h, this.1]
theorem LawT.ends {n N : Nat} {F : Int → Nat → Int} {T : Tab} (L : LawT n N F T) {k : Int} (h : k ∈ T.basis) : T.spans[k.toNat]? = some (none, none) := by
  have := (L.ok.mem k).mp (.inr h)
  rw [L.len] at this
  exact L.free _ (by omega)
theorem LawT.val {n N : Nat} {F : Int → Nat → Int} {T : Tab} (L : LawT n N F T) {k : Int} (h : k ∈ T.basis) : valT T k = some (0, 1) := by
  have := (L.ok.mem k).mp (.inr h)
  rw [L.len] at this
  exact L.value this.1 this.2
theorem LawT.zero_iff {n N : Nat} {F : Int → Nat → Int} {T : Tab} (L : LawT n N F T) (p c : Int) : (M.norm (T.E p c) T.unit).1 = 0 ↔ T.E p c = 0 := M.norm_top_zero (by have := L.ok.pos; omega)
section
variable {P : Program} {w : World} {K : PySem.W.Frag} {mg : Str → Option Value} {base : Heap} {f : Addr} {fd : FuncData} {cI cR C z : Addr}
structure DWa (P : Program) (w : World) (K : PySem.W.Frag) (mg : Str → Option Value) (base : Heap) (C cR : Addr) : Prop where
  basis : Dp P w K mg base C "basis" 1 (spKeys K C Tab.basis)
  columns : Dp P w K mg base C "columns" 1 (spKeys K C Tab.cols)
  entry : Dm P w K mg base C "entry" 4 ["self", "place", "column"] (spEntry K C cR)
  exchange : Dm P w K mg base C "exchange" 5 ["self", "place", "column"] (spExch K C cR)
  law_pick : Dn P w K mg base "_law_pick" 2 ["_law_heap_here", "_law_some"] (spPick K)
/-- a draw leaves the table as it is -/
theorem TabAt.draw {H H' : Hp} {L : Lay} {T : Tab} {o n : Addr} (t : TabAt K C H L T) (k : Keep [o, n] H H') (h : HeapAt H o n) (a : Away o n L) : TabAt K C H' L T := t.keep k h.wr fun b hb => by
  rcases List.mem_cons.mp hb with rfl | hb
  · exact ⟨a.o1, a.o2⟩
  · rw [List.mem_singleton.mp hb]
    exact ⟨a.n1, a.n2⟩
def spWander (K : PySem.W.Frag) (C : Addr) : Sp := fun vs H Q _ => ∃ o nn L T n N F k, vs = [.ref o, .ref L.p, .int k] ∧ HeapAt H o nn ∧ TabAt K C H L T ∧ LawT n N F T ∧ Away o nn L ∧ 0 ≤ k ∧ k ≤ 100 ∧
  ∀ L' T' H', Did K C n N F [o, nn] H L H' L' T' → HeapAt H' o nn → Q .non H'
theorem LawT.bpos {n N : Nat} {F : Int → Nat → Int} {T : Tab} (L : LawT n N F T) : srt T.basis ≠ [] ∧ srt T.cols ≠ [] ∧ (srt T.basis).length ≤ 20 ∧ (srt T.cols).length ≤ 20 := by
  refine ⟨fun z => ?_, fun z => ?_, ?_, ?_⟩
  · have := congrArg List.length z
    rw [srt_length] at this
    exact L.bn (List.length_eq_zero_iff.mp this)
  · have := congrArg List.length z
    rw [srt_length, L.cl] at this
    have := L.n1
    simp at *
    omega
  · rw [srt_length]
    exact L.ok.bl
  · rw [srt_length]
    exact L.ok.cl
theorem ok_l_wander (F0 : Fun K "_law_wander" "_law_wander" s_l_wander f fd) (c : TC K C) (Z : Bz mg) (D : DWa P w K mg base C cR) : FnOk P w K mg base (L2.CX P w) 6 f fd ["_law_heap_here", "_law_table", "_law_turns"] (spWander K C) := by
  refine F0.okX sc_l_wander (fun vs H Q E h => ?_) (fun cdv A outer s H vs Q E hr h => ?_)
  · obtain ⟨o, nn, L, T, n, N, F, k, rfl, _⟩ := h
    rfl
  · obtain ⟨o, nn, L, T, n, N, F, k, rfl, hh, t, lt, aw, k0, k1, h⟩ := h
    have nd := sc_l_wander.nd
    refine ⟨_, (pss_one (ps_for (passes_of rfl) rfl (pi_range1 rfl Z.range_ (pa_cons (pv 2) pa_nil)) (pg_name (i := 3) nd rfl (Or.inl rfl)) (pss_cons (ps_par (i := 4) (j := 5) rfl nd rfl rfl (by decide) rfl rfl (pa_cons (pe_dn D.law_pick (hr.mono (by decide)) rfl passL (pa_cons (pv 0) (pa_cons (pe_dp (pv 1) D.basis (hr.mono (by decide))) pa_nil))) (pa_cons (pe_dn D.law_pick (hr.mono (by decide)) rfl passL (pa_cons (pv 0) (pa_cons (pe_dp (pv 1) D.columns (hr.mono (by decide))) pa_nil))) pa_nil)) (by rfl))
      (pss_one (ps_if (pt_cmpR op_ne (pe_ix (r := rIxT K) ix_tup (pe_dm (pv 1) D.entry (hr.mono (by decide)) passL (pa_cons (pv 4) (pa_cons (pv 5) pa_nil))) pe_int (fun _ _ => rfl)) pe_int (nomark _)) (pss_one (ps_expr (pe_dm (pv 1) D.exchange (hr.mono (by decide)) passL (pa_cons (pv 4) (pa_cons (pv 5) pa_nil))))) pss_nil))))), ?_⟩
    refine ⟨_, rfl, k, rfl, by omega, by omega, for_range (lo := 0) (n := k.toNat) (fun i σ H' => ∃ L' T' x y u, σ = [some (.ref o), some (.ref L.p), some (.int k), x, y, u] ∧ Did K C n N F [o, nn] H L H' L' T' ∧ HeapAt H' o nn) ?_ ?_ ?_⟩
    · exact ⟨L, T, _, _, _, rfl, ⟨Keep.refl _ _, Own.refl _ _, t, lt⟩, hh⟩
    · rintro i σ H1 hi ⟨L1, T1, x, y, u, rfl, d1, hh1⟩
      have t1 := d1.at_
      have l1 := d1.law
      have ep : L.p = L1.p := d1.own.p.symm
      have aw1 : Away o nn L1 := aw.own d1.own hh
      obtain ⟨b1, b2, b3, b4⟩ := l1.bpos
      rw [ep]
      refine ⟨_, rfl, _, rfl, _, _, _, rfl, t1.ins, L1, T1, rfl, t1, fun ba H2 s2 nb hba => ?_⟩
      have out1 : ∀ {a : Addr} {G : Hp}, HeapAt G o nn → G a = none → a ≠ o ∧ a ≠ nn := fun hg ha => by
        have := heap_out hg ha
        simp only [List.mem_cons, List.not_mem_nil, or_false, not_or] at this
        exact this
      obtain ⟨q1, q2⟩ := out1 hh1 nb
      refine ⟨o, nn, ba, srt T1.basis, rfl, hh1.same s2, .inl (SqT.of hba), q1, q2, b1, by omega, fun pl H3 k3 hh3 hpl => ?_⟩
      have d3 := (d1.same s2).draw k3 (hh1.same s2) aw1
      refine ⟨_, rfl, _, rfl, _, _, _, rfl, d3.at_.ins, L1, T1, rfl, d3.at_, fun ca H4 s4 nc hca => ?_⟩
      obtain ⟨q3, q4⟩ := out1 hh3 nc
      refine ⟨o, nn, ca, srt T1.cols, rfl, hh3.same s4, .inl (SqT.of hca), q3, q4, b2, by omega, fun cl H5 k5 hh5 hcl => ⟨_, _, rfl, ?_⟩⟩
      have d5 := (d3.same s4).draw k5 (hh3.same s4) aw1
      have hpb := srt_mem.mp hpl
      have hcc := srt_mem.mp hcl
      refine ⟨_, rfl, L1.p, _, _, rfl, d5.at_.ins, rfl, _, rfl, _, rfl, L1, T1, _, "int", _, "int", rfl, d5.at_, l1.ok, .int _, .int _, (fun e => by rw [l1.inb hpb] at e; cases e), (fun _ e => by rw [l1.inc hcc] at e; cases e), fun i' j' e1 e2 _ _ ta hta => ?_⟩
      cases e1
      cases e2
      have s6 := same_new (o := .tup [.int (M.norm (T1.E pl cl) T1.unit).1, .int (M.norm (T1.E pl cl) T1.unit).2]) hta
      have d6 := d5.same s6
      have hh6 := hh5.same s6
      refine ⟨ta, _, _, _, rfl, rfl, SqT.of upd_same, atI_nat (j := 0) rfl, rfl, _, rfl, ?_⟩
      by_cases e0 : T1.E pl cl = 0
      · rw [show (!decide (V.int (M.norm (T1.E pl cl) T1.unit).1 = V.int 0)) = false from by rw [(l1.zero_iff pl cl).mpr e0]; rfl]
        refine iteF ?_
        exact ⟨L1, T1, _, _, _, rfl, d6, hh6⟩
      · rw [show (!decide (V.int (M.norm (T1.E pl cl) T1.unit).1 = V.int 0)) = true from by
          have : ¬ (V.int (M.norm (T1.E pl cl) T1.unit).1 = V.int 0) := fun z => e0 ((l1.zero_iff pl cl).mp (V.int.inj z))
          rw [decide_eq_false this]
          rfl]
        refine iteT ⟨_, rfl, L1.p, _, _, rfl, d6.at_.ins, rfl, _, rfl, _, rfl, L1, T1, _, "int", _, "int", rfl, d6.at_, l1.ok, .int _, .int _, (fun e => by rw [l1.inb hpb] at e; cases e), (fun _ e => by rw [l1.inc hcc] at e; cases e), fun i' j' e1 e2 _ _ => ?_⟩
        cases e1
        cases e2
        refine ⟨fun z => absurd z e0, fun _ => ⟨(0, 1), (none, none), l1.val hpb, l1.ends hpb, sm01, ⟨True.intro, True.intro⟩, fun L2 H7 k7 g7 t7 => ?_⟩⟩
        have d7 := d6.exch (heap_live hh6) k7 g7 t7 hpb hcc e0
        exact ⟨L2, _, _, _, _, rfl, d7, hh6.keep k7 aw1.o1 aw1.n1⟩
    · rintro σ H1 ⟨L1, T1, x, y, u, rfl, d1, hh1⟩
      exact h L1 T1 H1 d1 hh1
end
end K24
/-! K24P: led. -/
namespace K24
open PySem PySem.Spec PyProof.Rows L2
theorem inV_ints (x : Int) : ∀ ks : List Int, inV (.int x) (ks.map V.int) = decide (x ∈ ks)
  | [] => rfl
  | k :: r => by
    have ih := inV_ints x r
    unfold inV at ih ⊢
    rw [List.map_cons, List.any_cons, ih]
    have : eqV (.int k) (.int x) = decide (k = x) := by
      show (k == x) = _
      by_cases h : k = x
      · simp [h]
      · simp [h]
    rw [this]
    by_cases h : k = x
    · simp [h]
    · have h2 : ¬ x = k := fun z => h z.symm
      simp [h, h2]
theorem flat_ints : ∀ ks : List Int, (ks.map V.int).all flatV = true
  | [] => rfl
  | k :: r => by rw [List.map_cons, List.all_cons, flat_ints r]; rfl
/-- [x for x in ints if t], from a tuple; the test may make new objects -/
theorem lc_filtT {K : PySem.W.Frag} {a : Addr} {xs : List Int} {p : Int → Bool} {i : Nat} {te : TE} {tt : TT} {σ : L2.St} {H : Hp} {D : Addr} {Qd : Hp → Prop} (hD : H D = none) (hx : SqT K H a (xs.map V.int)) (hz : xs.length < sizeLine)
    (ht : ∀ x ∈ xs, ∀ H', Same H H' → ∀ Q : Bool → Hp → Prop, (∀ H'', Same H' H'' → Q (p x) H'') → tt ((wipe σ [i]).set i (some (.int x))) H' Q)
    (he : ∀ x ∈ xs, ∀ H', Same H H' → ∀ Q : VK, Q (.int x) H' → te ((wipe σ [i]).set i (some (.int x))) H' Q) (hd : ∀ H', Same H H' → H' D = some (.lst ((xs.filter p).map V.int)) → Qd H')
    (hw2 : ∀ x : V, wipe ((wipe σ [i]).set i (some x)) [i] = wipe σ [i]) :
    ∃ W : Nat → Nat → Hp → Prop, (∃ m, W 0 m (upd H D (.lst []))) ∧ ∀ j m H, W j m H →
      ((Itt K a).stop j H ∧ Qd H) ∨ ((Itt K a).go j H ∧ ∃ Nx : Hp → Prop, (∀ H', Nx H' → ∃ m', m' < m ∧ W (j + 1) m' H') ∧ ∀ x H', (Itt K a).yld j H x H' → gName i x (wipe σ [i]) H' fun σ2 H2 => wipe σ2 [i] = wipe σ [i] ∧ tt σ2 H2 fun b H3 =>
        if b = true then te σ2 H3 fun y H4 => ∃ acc, H4 D = some (.lst acc) ∧ acc.length < sizeLine ∧ Nx (upd H4 D (.lst (acc ++ [y]))) else Nx H3) := by
  refine lc_tup (K := K) (xs := xs.map V.int) (fun j H' => Same H H' ∧ H' D = some (.lst (((xs.take j).filter p).map V.int))) ⟨same_new hD, upd_same⟩ (fun j H' _ q => same_tup q.1 hx) ?_ ?_
  · rintro j x H' hj ⟨s1, h1⟩
    rw [List.getElem?_map] at hj
    obtain ⟨y, hy, rfl⟩ : ∃ y, xs[j]? = some y ∧ V.int y = x := by
      cases e : xs[j]? with
      | none => rw [e] at hj; cases hj
      | some y => rw [e] at hj; exact ⟨y, rfl, Option.some.inj hj⟩
    have hm := List.mem_of_getElem? hy
    refine ⟨hw2 _, ht y hm H' s1 _ fun H2 s2 => ?_⟩
    have h2 := s2 _ _ h1
    rw [take_snoc hy, List.filter_append]
    cases e : p y with
    | true =>
      refine iteT (B := Same H H2 ∧ H2 D = some (.lst (((xs.take j).filter p ++ [y].filter p).map V.int))) ?_
      refine he y hm H2 (s1.trans s2) _ ⟨_, h2, ?_, same_put (s1.trans s2) hD, ?_⟩
      · rw [List.length_map]
        exact Nat.lt_of_le_of_lt (Nat.le_trans (List.length_filter_le ..) (List.length_take_le' ..)) hz
      · rw [upd_same]
        simp [e]
    | false =>
      refine iteF ⟨s1.trans s2, ?_⟩
      rw [h2]
      simp [e]
  · rintro H' ⟨s1, h1⟩
    rw [List.length_map, take_all] at h1
    exact hd H' s1 h1
/-- the same from a list -/
theorem lc_filtL {K : PySem.W.Frag} {a : Addr} {xs : List Int} {p : Int → Bool} {i : Nat} {te : TE} {tt : TT} {σ : L2.St} {H : Hp} {D : Addr} {Qd : Hp → Prop} (hD : H D = none) (hx : SqL K H a (xs.map V.int)) (hz : xs.length < sizeLine)
    (ht : ∀ x ∈ xs, ∀ H', Same H H' → ∀ Q : Bool → Hp → Prop, (∀ H'', Same H' H'' → Q (p x) H'') → tt ((wipe σ [i]).set i (some (.int x))) H' Q)
    (he : ∀ x ∈ xs, ∀ H', Same H H' → ∀ Q : VK, Q (.int x) H' → te ((wipe σ [i]).set i (some (.int x))) H' Q) (hd : ∀ H', Same H H' → H' D = some (.lst ((xs.filter p).map V.int)) → Qd H')
    (hw2 : ∀ x : V, wipe ((wipe σ [i]).set i (some x)) [i] = wipe σ [i]) :
    ∃ W : Nat → Nat → Hp → Prop, (∃ m, W 0 m (upd H D (.lst []))) ∧ ∀ j m H, W j m H →
      ((Itl K a).stop j H ∧ Qd H) ∨ ((Itl K a).go j H ∧ ∃ Nx : Hp → Prop, (∀ H', Nx H' → ∃ m', m' < m ∧ W (j + 1) m' H') ∧ ∀ x H', (Itl K a).yld j H x H' → gName i x (wipe σ [i]) H' fun σ2 H2 => wipe σ2 [i] = wipe σ [i] ∧ tt σ2 H2 fun b H3 =>
        if b = true then te σ2 H3 fun y H4 => ∃ acc, H4 D = some (.lst acc) ∧ acc.length < sizeLine ∧ Nx (upd H4 D (.lst (acc ++ [y]))) else Nx H3) := by
  refine lc_list (K := K) (xs := xs.map V.int) (fun j H' => Same H H' ∧ H' D = some (.lst (((xs.take j).filter p).map V.int))) ⟨same_new hD, upd_same⟩ (fun j H' _ q => q.1.seq hx) ?_ ?_
  · rintro j x H' hj ⟨s1, h1⟩
    rw [List.getElem?_map] at hj
    obtain ⟨y, hy, rfl⟩ : ∃ y, xs[j]? = some y ∧ V.int y = x := by
      cases e : xs[j]? with
      | none => rw [e] at hj; cases hj
      | some y => rw [e] at hj; exact ⟨y, rfl, Option.some.inj hj⟩
    have hm := List.mem_of_getElem? hy
    refine ⟨hw2 _, ht y hm H' s1 _ fun H2 s2 => ?_⟩
    have h2 := s2 _ _ h1
    rw [take_snoc hy, List.filter_append]
    cases e : p y with
    | true =>
      refine iteT (B := Same H H2 ∧ H2 D = some (.lst (((xs.take j).filter p ++ [y].filter p).map V.int))) ?_
      refine he y hm H2 (s1.trans s2) _ ⟨_, h2, ?_, same_put (s1.trans s2) hD, ?_⟩
      · rw [List.length_map]
        exact Nat.lt_of_le_of_lt (Nat.le_trans (List.length_filter_le ..) (List.length_take_le' ..)) hz
      · rw [upd_same]
        simp [e]
    | false =>
      refine iteF ⟨s1.trans s2, ?_⟩
      rw [h2]
      simp [e]
  · rintro H' ⟨s1, h1⟩
    rw [List.length_map, take_all] at h1
    exact hd H' s1 h1
theorem LawT.blen {n N : Nat} {F : Int → Nat → Int} {T : Tab} (L : LawT n N F T) : T.basis.length + n = N := by
  have h2 := congrArg List.length L.all
  rw [srt_length, List.length_append, srt_length, srt_length, idx_length, L.cl] at h2
  exact h2
section
variable {P : Program} {w : World} {K : PySem.W.Frag} {mg : Str → Option Value} {base : Heap} {f : Addr} {fd : FuncData} {cI cR C z : Addr}
structure DLe (P : Program) (w : World) (K : PySem.W.Frag) (mg : Str → Option Value) (base : Heap) (C cR : Addr) : Prop where
  basis : Dp P w K mg base C "basis" 1 (spKeys K C Tab.basis)
  entry : Dm P w K mg base C "entry" 4 ["self", "place", "column"] (spEntry K C cR)
  exchange : Dm P w K mg base C "exchange" 5 ["self", "place", "column"] (spExch K C cR)
def spLed (K : PySem.W.Frag) (C : Addr) : Sp := fun vs H Q _ => ∃ (L : Lay) (T : Tab) (ga : Addr) (n N : Nat) (F : Int → Nat → Int) (gs : List Int), vs = [.ref L.p, .ref ga] ∧ TabAt K C H L T ∧ LawT n N F T ∧ SqT K H ga (gs.map V.int) ∧ gs.Nodup ∧ gs.length = T.basis.length ∧ (∀ g ∈ gs, 0 ≤ g ∧ g < (N : Int)) ∧
  ∀ (b : Bool) L' T' H', Did K C n N F [] H L H' L' T' → (b = true → ∀ k, k ∈ T'.basis ↔ k ∈ gs) → Q (.bl b) H'
theorem ok_l_led (F0 : Fun K "_law_led" "_law_led" s_l_led f fd) (c : TC K C) (Z : Bz mg) (D : DLe P w K mg base C cR) : FnOk P w K mg base (L2.CX P w) 6 f fd ["_law_table", "_law_goal"] (spLed K C) := by
  refine F0.okX sc_l_led (fun vs H Q E h => ?_) (fun cdv A outer s H vs Q E hr h => ?_)
  · obtain ⟨L, T, ga, n, N, F, gs, rfl, _⟩ := h
    rfl
  · obtain ⟨L, T, ga, n, N, F, gs, rfl, t, lt, hga, gnd, gl, gr, h⟩ := h
    have nd := sc_l_led.nd
    refine ⟨_, (pss_cons (ps_for (passes_of rfl) rfl (pi_range1 rfl Z.range_ (pa_cons (pe_callB call_len_seq rfl Z.len_ PySem.boot_len (pa_cons (pv 1) pa_nil)) pa_nil)) (pg_name (i := 2) nd rfl (Or.inl rfl)) (pss_cons (ps_set (i := 3) nd rfl (Or.inr rfl) (pe_lc (own := [("_law_at", 4)]) rfl nd (pi_tup (pv 1)) (blkOk_by (N := ["_law_table", "_law_goal", "_law_turn", "_law_fresh", "_law_at", "_law_some", "_law_place"]) (sc := defScope s_l_led) (by decide +kernel)) (fun _ _ _ _ _ => (pg_name (i := 4) nd rfl (Or.inl rfl))) (fun _ _ _ _ _ => (pts_one (pt_cmpR (r := rIn K true) op_notIn_seq (pv 4) (pe_dp (pv 0) D.basis (hr.mono (by decide))) (by rfl)))) (fun _ _ _ _ _ => (pv 4))))
      (pss_cons (ps_if (pt_cmpR (op_eqD hr.units) (pv 3) (pe_lst pa_nil) (nomark _)) (pss_one (ps_ret pe_bl)) pss_nil)
      (pss_cons (ps_setLc (i := 5) (own := [("_law_place", 6)]) rfl nd rfl rfl (sw_true rfl rfl rfl (by decide +kernel)) (pi_tup (pe_dp (pv 0) D.basis (hr.mono (by decide)))) (blkOk_by (N := ["_law_table", "_law_goal", "_law_turn", "_law_fresh", "_law_at", "_law_some", "_law_place"]) (sc := defScope s_l_led) (by decide +kernel)) (fun _ _ _ _ _ => (pg_name (i := 6) nd rfl (Or.inl rfl))) (fun _ _ _ _ _ => (pts_one (pt_cmpR (r := rIn K true) op_notIn_seq (pv 6) (pv 1) (by rfl)))) (fun _ _ _ _ _ => (pv 6)))
      (pss_cons (ps_setLc (i := 5) (own := [("_law_place", 6)]) rfl nd rfl rfl (sw_true rfl rfl rfl (by decide +kernel)) (pi_list (pv 5)) (blkOk_by (N := ["_law_table", "_law_goal", "_law_turn", "_law_fresh", "_law_at", "_law_some", "_law_place"]) (sc := defScope s_l_led) (by decide +kernel)) (fun _ _ _ _ _ => (pg_name (i := 6) nd rfl (Or.inl rfl))) (fun _ _ _ _ _ => (pts_one (pt_cmpR op_ne (pe_ix (r := rIxT K) ix_tup (pe_dm (pv 0) D.entry (hr.mono (by decide)) passL (pa_cons (pv 6) (pa_cons (pe_ix (r := rIxL K) ix_list (pv 3) pe_int (fun _ _ => rfl)) pa_nil))) pe_int (fun _ _ => rfl)) pe_int (nomark _)))) (fun _ _ _ _ _ => (pv 6)))
      (pss_cons (ps_if (pt_cmpR (op_eqD hr.units) (pv 5) (pe_lst pa_nil) (nomark _)) (pss_one (ps_ret pe_bl)) pss_nil)
      (pss_one (ps_expr (pe_dm (pv 0) D.exchange (hr.mono (by decide)) passL (pa_cons (pe_ix (r := rIxL K) ix_list (pv 5) pe_int (fun _ _ => rfl)) (pa_cons (pe_ix (r := rIxL K) ix_list (pv 3) pe_int (fun _ _ => rfl)) pa_nil)))))))))))
      (pss_one (ps_ret (pe_cmpR (op_eqD hr.units) (pe_dp (pv 0) D.basis (hr.mono (by decide))) (pv 1) (nomark _))))), ?_⟩
    have g20 : gs.length ≤ 20 := by rw [gl]; exact lt.ok.bl
    refine ⟨_, rfl, ga, _, rfl, .inr hga, _, rfl, by rw [List.length_map]; omega, by rw [List.length_map]; omega, for_by (J := Itr 0 (((gs.map V.int).length : Nat) : Int).toNat) (n := gs.length) (fun i σ H' => ∃ L' T' x y u v q, σ = [some (.ref L.p), some (.ref ga), x, y, u, v, q] ∧ Did K C n N F [] H L H' L' T') ?_ ?_ ?_ ?_ ?_⟩
    · exact ⟨L, T, _, _, _, _, _, rfl, ⟨Keep.refl _ _, Own.refl _ _, t, lt⟩⟩
    · intro i σ H' hi _
      show i < _
      rw [List.length_map]
      omega
    · intro σ H' _
      show _ ≤ gs.length
      rw [List.length_map]
      omega
    · rintro i σ H1 xv H1' hi ⟨L1, T1, x, y, u, v, q, rfl, d1⟩ ⟨rfl, rfl⟩
      have t1 := d1.at_
      have l1 := d1.law
      have ep : L.p = L1.p := d1.own.p.symm
      have hga1 := keep_tup d1.keep t.wr hga
      rw [ep]
      have zb : T1.basis.length ≤ 20 := l1.ok.bl
      have lt20 : ∀ {m : Nat}, m ≤ 20 → m < sizeLine := fun h => Nat.lt_of_le_of_lt h (by decide)
      refine ⟨_, rfl, ga, rfl, ⟨_, hga1⟩, fun D1 hD1 => lc_filtT (K := K) (p := fun x => !decide (x ∈ srt T1.basis)) (i := 4) hD1 hga1 (lt20 g20) (fun x hx H' s' Q' q' => ?_) (fun x hx H' s' Q' q' => ⟨_, rfl, q'⟩) (fun H2 s2 e2 => ?_) (fun _ => rfl)⟩
      · refine ⟨_, rfl, _, rfl, _, _, _, rfl, (t1.same s').ins, L1, T1, rfl, t1.same s', fun ba H2 s2 nb hba => ⟨ba, _, rfl, .inr (SqT.of hba), rfl, flat_ints _, _, rfl, ?_⟩⟩
        show Q' (!inV (V.int x) ((srt T1.basis).map V.int)) H2
        rw [inV_ints]
        exact q' H2 s2
      · refine ⟨_, rfl, (by show 0 ≤ sizeLine; decide), fun e1 he1 => ⟨_, _, .lst (SqL.of ((same_new he1) _ _ e2)) (dp_ints _), .lst (SqL.of upd_same) .nil, shaped_ints _, rfl, _, rfl, ?_⟩⟩
        rw [eqv_nil]
        have s3 := s2.trans (same_new (o := .lst []) he1)
        have e3 := (same_new (o := .lst []) he1) _ _ e2
        obtain ⟨H3, hH3⟩ : ∃ H3, upd H2 e1 (.lst []) = H3 := ⟨_, rfl⟩
        rw [hH3] at s3 e3 ⊢
        clear hH3 e2
        have fmem : ∀ g, g ∈ gs.filter (fun x => !decide (x ∈ srt T1.basis)) ↔ g ∈ gs ∧ g ∉ T1.basis := fun g => by
          rw [List.mem_filter]
          simp [srt_mem]
        generalize hfr : gs.filter (fun x => !decide (x ∈ srt T1.basis)) = fr at e3 fmem
        cases fr with
        | nil =>
          refine iteT (h true L1 T1 _ (d1.same s3) fun _ k => ?_)
          have sub : ∀ g ∈ gs, g ∈ T1.basis := fun g hg => by
            by_cases z : g ∈ T1.basis
            · exact z
            · exact absurd ((fmem g).mpr ⟨hg, z⟩) (by simp)
          refine ⟨fun hk => ?_, sub k⟩
          by_cases z : k ∈ gs
          · exact z
          · have b1 := l1.blen
            have b2 := lt.blen
            have := nodup_sub (l := k :: gs) (l' := T1.basis) (List.nodup_cons.mpr ⟨z, gnd⟩) fun x hx => by
              rcases List.mem_cons.mp hx with rfl | hx
              · exact hk
              · exact sub x hx
            rw [List.length_cons] at this
            omega
        | cons g0 fr' =>
          obtain ⟨hg0, hg0b⟩ := (fmem g0).mp List.mem_cons_self
          have hg0c : g0 ∈ T1.cols := ((l1.ok.mem g0).mpr (by rw [l1.len]; exact gr g0 hg0)).resolve_right hg0b
          have t3 := t1.same s3
          refine iteF ⟨_, rfl, _, _, _, rfl, t3.ins, L1, T1, rfl, t3, fun ba H4 s4 nb hba => ⟨ba, rfl, ⟨_, SqT.of hba⟩, fun D2 hD2 => lc_filtT (K := K) (p := fun x => !decide (x ∈ gs)) (i := 6) hD2 (SqT.of hba) (lt20 (by rw [srt_length]; exact zb)) (fun x hx H' s' Q' q' => ?_) (fun x hx H' s' Q' q' => ⟨_, rfl, q'⟩) (fun H5 s5 e5 => ?_) (fun _ => rfl)⟩⟩
          · refine ⟨_, rfl, _, rfl, ga, _, rfl, .inr (same_tup ((s3.trans s4).trans s') hga1), rfl, flat_ints _, _, rfl, ?_⟩
            show Q' (!inV (V.int x) (gs.map V.int)) H'
            rw [inV_ints]
            exact q' H' (Same.refl _)
          · have s35 := (s3.trans s4).trans s5
            have e35 := (s4.trans s5) _ _ e3
            have t5 := t1.same s35
            refine ⟨_, rfl, D2, rfl, ⟨_, SqL.of e5⟩, fun D3 hD3 => lc_filtL (K := K) (p := fun x => !decide (V.int (M.norm (T1.E x g0) T1.unit).1 = V.int 0)) (i := 6) hD3 (SqL.of e5) (lt20 (Nat.le_trans (List.length_filter_le ..) (by rw [srt_length]; exact zb))) (fun x hx H' s' Q' q' => ?_) (fun x hx H' s' Q' q' => ⟨_, rfl, q'⟩) (fun H6 s6 e6 => ?_) (fun _ => rfl)⟩
            · have hxb : x ∈ T1.basis := srt_mem.mp (List.mem_filter.mp hx).1
              have t6 := t5.same s'
              refine ⟨_, rfl, L1.p, _, _, rfl, t6.ins, rfl, _, rfl, _, rfl, D1, _, _, .int g0, rfl, rfl, SqL.of (s' _ _ e35), atI_nat (j := 0) rfl, L1, T1, _, "int", _, "int", rfl, t6, l1.ok, .int _, .int _, (fun e => by rw [l1.inb hxb] at e; cases e), (fun _ e => by rw [l1.inc hg0c] at e; cases e), fun i' j' e1 e2 _ _ ta hta => ?_⟩
              cases e1
              cases e2
              exact ⟨ta, _, _, _, rfl, rfl, SqT.of upd_same, atI_nat (j := 0) rfl, rfl, _, rfl, q' _ (same_new hta)⟩
            · refine ⟨_, rfl, (by show 0 ≤ sizeLine; decide), fun e7 he7 => ⟨_, _, .lst (SqL.of ((same_new he7) _ _ e6)) (dp_ints _), .lst (SqL.of upd_same) .nil, shaped_ints _, rfl, _, rfl, ?_⟩⟩
              rw [eqv_nil]
              have s7 := s6.trans (same_new (o := .lst []) he7)
              have e7' := (same_new (o := .lst []) he7) _ _ e6
              have s37 := s35.trans s7
              have e37 := s7 _ _ e35
              obtain ⟨H7, hH7⟩ : ∃ H7, upd H6 e7 (.lst []) = H7 := ⟨_, rfl⟩
              rw [hH7] at s7 s37 e7' e37 ⊢
              clear hH7 e6
              have smem : ∀ x, x ∈ ((srt T1.basis).filter fun x => !decide (x ∈ gs)).filter (fun x => !decide (V.int (M.norm (T1.E x g0) T1.unit).1 = V.int 0)) → x ∈ T1.basis ∧ T1.E x g0 ≠ 0 := fun x hx => by
                obtain ⟨h1, h2⟩ := List.mem_filter.mp hx
                refine ⟨srt_mem.mp (List.mem_filter.mp h1).1, fun z => ?_⟩
                rw [(l1.zero_iff x g0).mpr z] at h2
                simp at h2
              generalize ((srt T1.basis).filter fun x => !decide (x ∈ gs)).filter (fun x => !decide (V.int (M.norm (T1.E x g0) T1.unit).1 = V.int 0)) = so at e7' smem
              cases so with
              | nil => exact iteT (h false L1 T1 _ (d1.same s37) fun z => nomatch z)
              | cons s0 so' =>
                obtain ⟨hs0, hz0⟩ := smem s0 List.mem_cons_self
                have d7 := d1.same s37
                refine iteF ⟨_, rfl, L1.p, _, _, rfl, d7.at_.ins, rfl, _, rfl, D3, _, _, .int s0, rfl, rfl, SqL.of e7', atI_nat (j := 0) rfl, _, rfl, D1, _, _, .int g0, rfl, rfl, SqL.of e37, atI_nat (j := 0) rfl, L1, T1, _, "int", _, "int", rfl, d7.at_, l1.ok, .int _, .int _, (fun e => by rw [l1.inb hs0] at e; cases e), (fun _ e => by rw [l1.inc hg0c] at e; cases e), fun i' j' e1 e2 _ _ => ?_⟩
                cases e1
                cases e2
                refine ⟨fun z => absurd z hz0, fun _ => ⟨(0, 1), (none, none), l1.val hs0, l1.ends hs0, sm01, ⟨True.intro, True.intro⟩, fun L2 H8 k8 g8 t8 => ?_⟩⟩
                exact ⟨L2, _, _, _, _, _, _, rfl, d7.exch (fun b hb => nomatch hb) k8 g8 t8 hs0 hg0c hz0⟩
    · rintro σ H1 ⟨L1, T1, x, y, u, v, q, rfl, d1⟩
      have t1 := d1.at_
      have ep : L.p = L1.p := d1.own.p.symm
      have hga1 := keep_tup d1.keep t.wr hga
      rw [ep]
      refine ⟨_, rfl, _, _, _, rfl, t1.ins, L1, T1, rfl, t1, fun ba H2 s2 nb hba => ⟨_, rfl, _, _, .tup (SqT.of hba) (dp_ints _), .tup (same_tup s2 hga1) (dp_ints _), shaped_intsT _, shaped_intsT _, ?_⟩⟩
      refine h _ L1 T1 H2 (d1.same s2) fun e k => ?_
      have e' : PyData.eqvAll ((srt T1.basis).map PyData.int) (gs.map PyData.int) = true := by
        simp only [PyData.eqv] at e
        exact e
      rw [eqv_ints, decide_eq_true_eq] at e'
      rw [← e', srt_mem]
end
end K24
/-! K24J: What stays while lambdas are made; one answer of _law_heard compared. -/
namespace K24
open PySem PySem.Spec PyProof.Rows L2 LamX
section
variable {K : PySem.W.Frag} {C : Addr} {H H' : Hp} {L : Lay} {T : Tab}
theorem extN_tup (e : ExtN H H') {a : Addr} {xs : List V} (h : SqT K H a xs) : SqT K H' a xs := by
  rcases h with (h | ⟨o, h⟩) | h
  · exact .inl (.inl (e _ _ h (fun _ z => nomatch z)))
  · exact .inl (.inr ⟨o, e _ _ h (fun _ z => nomatch z)⟩)
  · exact .inr h
theorem extN_ends (e : ExtN H H') {a : Addr} {p : Ends2} (h : EndsA K H a p) : EndsA K H' a p := by
  obtain ⟨x, y, h1, h2, h3⟩ := h
  have go : ∀ {x : V} {o : Option Fr}, EndV K H x o → EndV K H' x o := fun {x o} h => by
    cases o with
    | none => exact h
    | some q =>
      obtain ⟨b, e', h⟩ := h
      exact ⟨b, e', extN_tup e h⟩
  exact ⟨x, y, extN_tup e h1, go h2, go h3⟩
theorem spans_extN (e : ExtN H H') {ss : List Addr} {es : List Ends2} (h : Paired (EndsA K H) ss es) : Paired (EndsA K H') ss es := by
  induction h with
  | nil => exact .nil
  | cons a t ih => exact .cons (extN_ends e a) ih
theorem TabAt.extN (h : TabAt K C H L T) (e : ExtN H H') : TabAt K C H' L T := by
  obtain ⟨ss, h2, h2p⟩ := h.spans
  obtain ⟨k1, h3, h3p⟩ := h.held
  obtain ⟨k2, h4, h4p⟩ := h.table
  obtain ⟨xs, h5, h5p⟩ := h.hist
  refine ⟨e _ _ h.ins (fun _ z => nomatch z), ⟨ss, e _ _ h2 (fun _ z => nomatch z), ?_⟩, ⟨k1, e _ _ h3 (fun _ z => nomatch z), h3p.imp fun v x hh => ?_⟩, ⟨k2, e _ _ h4 (fun _ z => nomatch z), h4p.imp fun v x hh => ?_⟩, ⟨xs, e _ _ h5 (fun _ z => nomatch z), h5p⟩, h.n1, h.n2, h.n3, h.n4⟩
  · exact spans_extN e h2p
  · obtain ⟨a, e1, r⟩ := hh
    exact ⟨a, e1, extN_tup e r⟩
  · obtain ⟨a, e1, r, k⟩ := hh
    exact ⟨a, e1, r, e _ _ k (fun _ z => nomatch z)⟩
theorem Odd.extN {v : V} {t : String} (o : Odd K H v t) (e : ExtN H H') : Odd K H' v t := by
  cases o with
  | non => exact .non
  | bl b => exact .bl b
  | int i => exact .int i
  | str x => exact .str x
  | lst h => exact .lst (e _ _ h (fun _ z => nomatch z))
  | tup h => exact .tup (extN_tup e h)
theorem HeapAt.extN {o n : Addr} (h : HeapAt H o n) (e : ExtN H H') : HeapAt H' o n := by
  obtain ⟨⟨ms, st, a, b, r⟩, ne⟩ := h
  exact ⟨⟨ms, st, e _ _ a (fun _ z => nomatch z), e _ _ b (fun _ z => nomatch z), r⟩, ne⟩
theorem extN_same {H H' : Hp} (s : Same H H') : ExtN H H' := ExtN.of s
theorem tabs_keep {T : List (Addr × Str)} {fp : List Addr} (t : Tabs T H) (k : Keep fp H H') (w : ∀ b ∈ fp, Wr H b) : Tabs T H' := fun p hp => by
  obtain ⟨ps, h1, h2, h3⟩ := t p hp
  have no : ∀ {b : Addr} {u : HO}, H b = some u → (∀ C dx fs, u ≠ .ins C dx fs) → (∀ ys, u ≠ .lst ys) → (∀ ys, u ≠ .dK ys) → b ∉ fp := fun {b u} e n1 n2 n3 hm => by
    rcases w b hm with ⟨C, dx, fs, z⟩ | ⟨ys, z⟩ | ⟨ys, z⟩
    · rw [e] at z
      exact n1 _ _ _ (Option.some.inj z)
    · rw [e] at z
      exact n2 _ (Option.some.inj z)
    · rw [e] at z
      exact n3 _ (Option.some.inj z)
  refine ⟨ps, k _ _ h1 (no h1 (fun _ _ _ z => nomatch z) (fun _ z => nomatch z) (fun _ z => nomatch z)), h2, fun pos cv hc => ?_⟩
  obtain ⟨c, e1, e2⟩ := h3 pos cv hc
  exact ⟨c, e1, k _ _ e2 (no e2 (fun _ _ _ z => by unfold CodeO at z; cases z) (fun _ z => by unfold CodeO at z; cases z) fun _ z => by unfold CodeO at z; cases z)⟩
theorem tabs_same {T : List (Addr × Str)} (t : Tabs T H) (s : Same H H') : Tabs T H' := t.ext s
/-- a lambda let go -/
theorem tabs_del {T : List (Addr × Str)} {f : Addr} (t : Tabs T H) {φ : Heap → Prop} (hf : H f = some (.ext φ)) (g : ∀ c q, H c = some (CodeO c q) → c ≠ f) : Tabs T (del H f) := fun p hp => by
  obtain ⟨ps, h1, h2, h3⟩ := t p hp
  have n : p.1 ≠ f := fun z => by
    rw [z, hf] at h1
    cases h1
  refine ⟨ps, by rw [del_ne n]; exact h1, h2, fun pos cv hc => ?_⟩
  obtain ⟨c, e1, e2⟩ := h3 pos cv hc
  exact ⟨c, e1, by rw [del_ne (g c _ e2)]; exact e2⟩
end
/-- what a lambda says when _law_heard calls it -/
def Says (cI cR : Addr) (T : List (Addr × Str)) (H0 : Hp) (σ : L2.St) (d : LamD) (w1 w2 : Str) : Prop :=
  ∀ (H' : Hp) (Q : VK), ExtN H0 H' → Tabs T H' → (∀ p H'', Same H' H'' → H' p = none → H'' p = some (.tup [.str w1, .str w2]) → Q (.ref p) H'') → d.t (heardE cI cR Q) σ H' (heardQ Q)
theorem err_says {cI cR : Addr} {x : Str} {H : Hp} {Q : VK} (h : ∀ p H'', Same H H'' → H p = none → H'' p = some (.tup [.str "refused", .str x]) → Q (.ref p) H'') : Err cR x H (heardE cI cR Q) :=
  fun d H' hn s e => ⟨d, .str x, rfl, e, .inr ⟨rfl, fun p hp => h p _ (same_put s (s.free hp)) (s.free hp) upd_same⟩⟩
theorem err_saysI {cI cR : Addr} {x : Str} {H : Hp} {Q : VK} (h : ∀ p H'', Same H H'' → H p = none → H'' p = some (.tup [.str "number", .str x]) → Q (.ref p) H'') : Err cI x H (heardE cI cR Q) :=
  fun d H' hn s e => ⟨d, .str x, rfl, e, .inl ⟨rfl, fun p hp => h p _ (same_put s (s.free hp)) (s.free hp) upd_same⟩⟩
theorem shaped_two {a b : Str} (ha : PyData.strOk a = true) (hb : PyData.strOk b = true) : SeqAt.shaped (.tuple [.str a, .str b]) = true := by
  unfold SeqAt.shaped
  simp [PyData.canLay0, PyData.canLayAll0, ha, hb, PyData.depth, PyData.depthAll]
theorem eqv_two (a b : Str) : PyData.eqv (.tuple [.str a, .str b]) (.tuple [.str a, .str b]) = true := by simp [PyData.eqv, PyData.eqvAll]
/-- new but for what a table was -/
def NewN (H : Hp) (f : Addr) : Prop := ∀ o, H f = some o → ∃ ps, o = .tbl ps
theorem newN_of {H H1 : Hp} {f : Addr} (e : ExtN H H1) (h : H1 f = none) : NewN H f := fun o ho => by
  cases o with
  | tbl ps => exact ⟨ps, rfl⟩
  | _ =>
    have := e _ _ ho (fun _ z => nomatch z)
    rw [h] at this
    cases this
theorem newN_none {H : Hp} {f : Addr} (h : H f = none) : NewN H f := fun o ho => by rw [h] at ho; cases ho
/-- if _law_heard(work) != (w1, w2): .. -/
theorem heard_step {X : Cx} {K : PySem.W.Frag} {cI cR : Addr} {T : List (Addr × Str)} {ls : List LamD} {te : TE} {σ : L2.St} {H0 H H' : Hp} {d : LamD} {f c' : Addr} {w1 w2 : Str} {A : TS} {D : Ends} (hd : d ∈ ls)
    (hte : ∀ Q : VK, Q (.ref f) H' → te σ H Q) (hl : LamIs X d H' f c') (e : ExtN H0 H') (hf : NewN H0 f) (t : Tabs T H') (hs : Says cI cR T H0 σ d w1 w2) (k1 : SeqAt.shaped (.tuple [.str w1, .str w2]) = true)
    (hn : ∀ H'', (∀ b o, H' b = some o → b ≠ f → H'' b = some o) → Tabs T H'' → ExtN H0 H'' → (∀ c q, H' c = some (CodeO c q) → c ≠ f) → D.nx σ H'') :
    tIfS (tTest (tOp (rNeD K) (tHeard X cI cR ls te) (tTup (tCons (tC (.str w1)) (tCons (tC (.str w2)) tNil))))) A tNext D σ H := by
  refine hte _ ⟨d, hd, f, c', rfl, hl, fun g => ?_⟩
  have lf := hl.1
  have e2 : ExtN H0 (del H' f) := fun b o eb n => by
    have nb : b ≠ f := fun z => by
      obtain ⟨ps, q⟩ := hf o (by rw [← z]; exact eb)
      exact n ps q
    rw [del_ne nb]
    exact e b o eb n
  have t2 := tabs_del t (φ := _) (by unfold LamO at lf; exact lf) g
  refine hs (del H' f) _ e2 t2 fun p H2 s np hp => ⟨(by show 2 ≤ sizeLine; decide), fun q hq => ⟨_, _, .tup (SqT.of ((same_new hq) _ _ hp)) (.cons (.str _) (.cons (.str _) .nil)), .tup (SqT.of upd_same) (.cons (.str _) (.cons (.str _) .nil)), k1, k1, _, rfl, ?_⟩⟩
  rw [eqv_two]
  refine iteF ?_
  have s3 := s.trans (same_new (o := .tup [.str w1, .str w2]) hq)
  exact hn _ (fun b o eb nb => s3 _ _ (by rw [del_ne nb]; exact eb)) (tabs_same t2 s3) (fun b o eb n => s3 _ _ (e2 b o eb n)) g
/-! K24J: ### a list of lambdas, each called -/
def tMks (X : Cx) (T : List (Addr × Str)) : List LamD → TA
  | [] => tNil
  | d :: r => tCons (tMkLam X T d) (tMks X T r)
theorem lamIs_ext {X : Cx} {d : LamD} {H H' : Hp} {f c' : Addr} (h : LamIs X d H f c') (e : ExtN H H') : LamIs X d H' f c' :=
  ⟨e _ _ h.1 (lamO_ne_tbl), e _ _ h.2 codeO_ne⟩
theorem mks_ok {X : Cx} {T : List (Addr × Str)} : ∀ (ds : List LamD) {σ : L2.St} {H : Hp} {Q : List V → Hp → Prop}, Tabs T H →
    (∀ (fs : List (Addr × Addr)) H1, ExtN H H1 → Tabs T H1 → Paired (fun d fc => LamIs X d H1 fc.1 fc.2 ∧ NewN H fc.1) ds fs → (fs.map (·.1)).Nodup → Q (fs.map fun fc => .ref fc.1) H1) → tMks X T ds σ H Q
  | [], σ, H, Q, hT, h => h [] H (ExtN.refl H) hT .nil List.nodup_nil
  | d :: r, σ, H, Q, hT, h => ⟨hT, fun f c' H1 e1 t1 n1 l1 => mks_ok r t1 fun fs H2 e2 t2 p2 nd2 => by
    have pn : Paired (fun d fc => LamIs X d H2 fc.1 fc.2 ∧ NewN H fc.1) r fs ∧ f ∉ fs.map (·.1) := by
      clear h nd2
      induction p2 with
      | nil => exact ⟨.nil, List.not_mem_nil⟩
      | cons a t ih =>
        refine ⟨.cons ⟨a.1, fun o ho => ?_⟩ ih.1, fun hm => ?_⟩
        · cases o with
          | tbl ps => exact ⟨ps, rfl⟩
          | _ => exact a.2 _ (e1 _ _ ho (fun _ z => nomatch z))
        · rcases List.mem_cons.mp hm with z | z
          · have z : f = _ := z
            subst z
            obtain ⟨ps, q⟩ := a.2 _ l1.1
            exact lamO_ne_tbl _ q
          · exact ih.2 z
    exact h ((f, c') :: fs) H2 (e1.trans e2) t2 (.cons ⟨lamIs_ext l1 e2, newN_none n1⟩ pn.1) (List.nodup_cons.mpr ⟨pn.2, nd2⟩)⟩
theorem works_loop {X : Cx} {K : PySem.W.Frag} {cI cR : Addr} {T : List (Addr × Str)} {ds ls : List LamD} {s0 s1 s2 s3 s4 : Option V} {y0 : Option V} {H0 H : Hp} {w1 w2 : Str} {A : TS} {D : Ends} (hsub : ∀ d ∈ ds, d ∈ ls) (hT : Tabs T H) (e : ExtN H0 H) (hz : ds.length ≤ 100)
    (hs : ∀ d ∈ ds, ∀ y, Says cI cR T H0 [s0, s1, s2, s3, s4, some y] d w1 w2) (k1 : SeqAt.shaped (.tuple [.str w1, .str w2]) = true) (hn : ∀ y H', ExtN H0 H' → Tabs T H' → D.nx [s0, s1, s2, s3, s4, y] H') :
    tFor (iList K (tLst (tMks X T ds))) (gName 5) (tIfS (tTest (tOp (rNeD K) (tHeard X cI cR ls (tVar 5)) (tTup (tCons (tC (.str w1)) (tCons (tC (.str w2)) tNil))))) A tNext) D [s0, s1, s2, s3, s4, y0] H := by
  refine mks_ok ds hT fun fs H1 e1 t1 p1 nd1 => ?_
  have lf : fs.length = ds.length := (Paired.length p1).symm
  refine ⟨by rw [List.length_map, lf]; exact Nat.le_trans hz (by decide), fun lw hlw => ⟨lw, rfl, ⟨_, SqL.of upd_same⟩, for_list (K := K) (a := lw) (xs := fs.map fun fc => V.ref fc.1) (fun j σ H' => ∃ y, σ = [s0, s1, s2, s3, s4, y] ∧ ExtN H0 H' ∧ Tabs T H' ∧ H' lw = some (.lst (fs.map fun fc => V.ref fc.1)) ∧ Paired (fun d fc => LamIs X d H' fc.1 fc.2 ∧ NewN H0 fc.1 ∧ fc.1 ≠ lw) (ds.drop j) (fs.drop j)) ?_ ?_ ?_ ?_⟩⟩
  · have s := same_new (o := .lst (fs.map fun fc => V.ref fc.1)) hlw
    refine ⟨y0, rfl, (e.trans e1).trans (extN_same s), tabs_same t1 s, upd_same, ?_⟩
    rw [List.drop_zero, List.drop_zero]
    generalize upd H1 lw (.lst (fs.map fun fc => V.ref fc.1)) = H2 at s
    clear nd1 lf hz hs hsub
    induction p1 with
    | nil => exact .nil
    | cons a t ih =>
      refine .cons ⟨lamIs_ext a.1 (extN_same s), fun o ho => ?_, fun z => ?_⟩ ih
      · cases o with
        | tbl ps => exact ⟨ps, rfl⟩
        | _ => exact a.2 _ (e _ _ ho (fun _ z => nomatch z))
      · have := a.1.1
        rw [z, hlw] at this
        cases this
  · rintro j σ H' _ ⟨y, rfl, _, _, h, _⟩
    exact SqL.of h
  · rintro j x σ H' hj ⟨y, rfl, e2, t2, hl2, p2⟩
    rw [List.getElem?_map] at hj
    obtain ⟨fc, hfc, rfl⟩ : ∃ fc, fs[j]? = some fc ∧ V.ref fc.1 = x := by
      cases e : fs[j]? with
      | none => rw [e] at hj; cases hj
      | some y => rw [e] at hj; exact ⟨y, rfl, Option.some.inj hj⟩
    have ed := List.tail_drop (l := ds) (i := j)
    have nd2 : (fs.drop j).map (·.1) |>.Nodup := by
      rw [List.map_drop]
      exact nd1.sublist (List.drop_sublist _ _)
    rw [drop_nth hfc] at p2 nd2
    generalize hdj : ds.drop j = dj at p2 ed
    cases p2 with
    | @cons d _ dr _ a t =>
      obtain ⟨l2, n2, n3⟩ := a
      have hdm : d ∈ ds := List.mem_of_mem_drop (i := j) (by rw [hdj]; exact List.mem_cons_self)
      obtain ⟨nf, _⟩ := List.nodup_cons.mp nd2
      refine heard_step (H0 := H0) (hsub d hdm) (fun Q q => ⟨_, rfl, q⟩) l2 e2 n2 t2 (hs d hdm _) k1 fun H'' hk t3 e3 g => ?_
      refine ⟨_, rfl, e3, t3, hk _ _ hl2 (Ne.symm n3), ?_⟩
      rw [← ed]
      show Paired _ dr _
      clear hdj ed nd2
      generalize fs.drop (j + 1) = fr at t nf
      clear hdm
      induction t with
      | nil => exact .nil
      | @cons d2 f2 r1 r2 a2 t2' ih =>
        refine .cons ⟨⟨hk _ _ a2.1.1 (fun z => nf (by show fc.1 ∈ _; rw [← z]; simp)), hk _ _ a2.1.2 (g _ _ a2.1.2)⟩, a2.2.1, a2.2.2⟩ (ih fun z => nf (List.mem_cons_of_mem _ z))
  · rintro σ H' ⟨y, rfl, e2, t2, _, _⟩
    exact hn y H' e2 t2
end K24
/-! K24K: The lambdas of the text; _law_refusals_right. -/
namespace K24
open PySem PySem.Spec PyProof.Rows L2 LamX
/-- a def whose code object is known -/
structure FunC (K : PySem.W.Frag) (x qual : Str) (st : Stmt) (f : Addr) (fd : FuncData) (c : Addr) : Prop where
  ex : ∃ (oc : Value) (od : Option Addr) (kV doc pm : Value) (an : Option Addr) (ct : Value) (osl : Array (Option Value)),
    fd = PySem.W.fnOf x qual (defArgs st) (defBody st) (defScope st) .none kV doc pm an (.ref c) ct ∧ K.lookup f = some ⟨oc, od, .func fd, osl⟩ ∧ PySem.W.codeIn K (.ref c) qual = true
theorem okGC {P : Program} {w : World} {K : PySem.W.Frag} {mg : Str → Option Value} {base : Heap} {x qual : Str} {st : Stmt} {f c : Addr} {fd : FuncData} {N ps : List Str} {k : Nat} {sp : Sp} (F : FunC K x qual st f fd c) (S : FnScope N ps (defScope st)) (len : ∀ vs H Q E, sp vs H Q E → vs.length = ps.length)
    (hbody : ∀ (A : Around) (outer : List Env) (s : Shared) (H : Hp) (vs : List V) (Q : VK) (E : XK), Room k (A.deeper (envOfC qual (defScope st) s.heap.objs.size f (.ref c))) → (A.deeper (envOfC qual (defScope st) s.heap.objs.size f (.ref c))).guards = some [] → sp vs H Q E →
      ∃ t, PSs (cxOf (L2.CX P w) P w K mg base N qual (defScope st) f (.ref c) A outer s H E) (defBody st) t ∧ t { nx := fun _ H' => Q .non H', rt := Q } (L2.start N vs) H) : FnG P w K mg base (L2.CX P w) (k + 1) f fd ps sp := by
  obtain ⟨oc, od, kV, doc, pm, an, ct, osl, rfl, lk, hcd⟩ := F.ex
  refine ⟨len, fun A outer s H args us vs Q E hr hg he hb hv h => ?_⟩
  exact LamX.run_ofS lk hcd S hr he hb hv (len _ _ _ _ h) fun hr' => hbody A outer s H vs Q E hr' hg h
/-! K24K: ### the lambdas by their places -/
abbrev dE : Expr := .Constant .none 0 ⟨0, 0, 0, 0⟩
abbrev dS : Stmt := .Pass ⟨0, 0, 0, 0⟩
def forIter : Stmt → Expr
  | .For _ it _ _ _ => it
  | _ => dE
def forBody : Stmt → List Stmt
  | .For _ _ b _ _ => b
  | _ => []
def ifTest : Stmt → Expr
  | .If c _ _ _ => c
  | _ => dE
def ifBody : Stmt → List Stmt
  | .If _ b _ _ => b
  | _ => []
def lstOf : Expr → List Expr
  | .List es _ => es
  | _ => []
def cmpL : Expr → Expr
  | .Compare a _ _ _ => a
  | _ => dE
def boolR : Expr → Expr
  | .BoolOp _ es _ => es.getD 1 dE
  | _ => dE
def callA : Expr → Expr
  | .Call _ es _ _ => es.getD 0 dE
  | _ => dE
def retE : Stmt → Expr
  | .Return (some e) _ => e
  | _ => dE
def lamP : Expr → Arguments
  | .Lambda p _ _ _ => p
  | _ => defArgs s_law
def lamB : Expr → Expr
  | .Lambda _ b _ _ => b
  | _ => dE
def lamSc : Expr → Scope
  | .Lambda _ _ s _ => s
  | _ => defScope s_law
abbrev lamD (e : Expr) (t : XK → TE) : LamD := ⟨lamP e, lamB e, lamSc e, t⟩
abbrev rfS (i : Nat) : Stmt := (defBody s_l_refusals_right).getD i dS
abbrev rfL (i k : Nat) : Expr := (lstOf (forIter ((forBody (rfS i)).getD 0 dS))).getD k dE
abbrev rfC : Expr := callA (cmpL (ifTest ((forBody (rfS 3)).getD 0 dS)))
section
variable (K : PySem.W.Frag) (C cI cR : Addr)
abbrev dA0 : LamD := lamD (rfL 1 0) fun E => tMeth C "entry" (spEntry K C cR) [] E (tVar 1) (tCons (tVar 4) (tCons (tVar 4) tNil))
abbrev dA1 : LamD := lamD (rfL 1 1) fun E => tMeth C "entry" (spEntry K C cR) [] E (tVar 1) (tCons (tVar 4) (tCons (tVar 3) tNil))
abbrev dA2 : LamD := lamD (rfL 1 2) fun E => tMeth C "row_at" (spRowAt K C cR) [] E (tVar 1) (tCons (tVar 4) tNil)
abbrev dA3 : LamD := lamD (rfL 1 3) fun E => tMeth C "exchange" (spExch K C cR) [] E (tVar 1) (tCons (tVar 4) (tCons (tVar 4) tNil))
abbrev dB0 : LamD := lamD (rfL 2 0) fun E => tMeth C "entry" (spEntry K C cR) [] E (tVar 1) (tCons (tVar 2) (tCons (tVar 4) tNil))
abbrev dB1 : LamD := lamD (rfL 2 1) fun E => tMeth C "exchange" (spExch K C cR) [] E (tVar 1) (tCons (tVar 2) (tCons (tVar 4) tNil))
abbrev dB2 : LamD := lamD (rfL 2 2) fun E => tMeth C "move" (spMove K C cI cR) [] E (tVar 1) (tCons (tVar 4) (tCons (tC .non) tNil))
abbrev dC0 : LamD := lamD rfC fun E => tMeth C "move" (spMove K C cI cR) [] E (tVar 1) (tCons (tVar 3) (tCons (tVar 4) tNil))
abbrev dD0 : LamD := lamD (rfL 4 0) fun E => tMeth C "value" (spValue K C cI) [] E (tVar 1) (tCons (tVar 4) tNil)
abbrev dD1 : LamD := lamD (rfL 4 1) fun E => tMeth C "ends" (spEnds K C cI) [] E (tVar 1) (tCons (tVar 4) tNil)
end
section
variable {P : Program} {w : World} {K : PySem.W.Frag} {mg : Str → Option Value} {base : Heap} {f g : Addr} {fd fg : FuncData} {cI cR C z : Addr}
/-- the methods that the lambdas call, with all that is asked when they refuse -/
structure DRf (P : Program) (w : World) (K : PySem.W.Frag) (mg : Str → Option Value) (base : Heap) (C cI cR : Addr) : Prop where
  basis : Dp P w K mg base C "basis" 1 (spKeys K C Tab.basis)
  columns : Dp P w K mg base C "columns" 1 (spKeys K C Tab.cols)
  places : Dp P w K mg base C "places" 1 (spPlaces K C)
  law_pick : Dn P w K mg base "_law_pick" 2 ["_law_heap_here", "_law_some"] (spPick K)
  entry : Dm P w K mg base C "entry" 4 ["self", "place", "column"] (spEntry K C cR)
  row_at : Dm P w K mg base C "row_at" 3 ["self", "place"] (spRowAt K C cR)
  exchange : Dm P w K mg base C "exchange" 5 ["self", "place", "column"] (spExch K C cR)
  move : Dm P w K mg base C "move" 3 ["self", "column", "value"] (spMove K C cI cR)
  value : Dm P w K mg base C "value" 4 ["self", "place"] (spValue K C cI)
  ends : Dm P w K mg base C "ends" 4 ["self", "place"] (spEnds K C cI)
/-- where the defs with lambdas stand: the code object, its table -/
abbrev rfN : List Str := ["_law_heap_here", "_law_table", "_law_place", "_law_column", "_law_odd", "_law_work"]
theorem rf_oks {c : Addr} {A : Around} {outer : List Env} {s : Shared} {H : Hp} {E0 : XK} (D : DRf P w K mg base C cI cR) :
    ∀ d ∈ [dA0 K C cR, dA1 K C cR, dA2 K C cR, dA3 K C cR, dB0 K C cR, dB1 K C cR, dB2 K C cI cR, dC0 K C cI cR, dD0 K C cI, dD1 K C cI], d.Ok (cxOf (L2.CX P w) P w K mg base rfN "_law_refusals_right" (defScope s_l_refusals_right) f (.ref c) A outer s H E0) 5 := by
  intro d hd
  simp only [List.mem_cons, List.not_mem_nil, or_false] at hd
  rcases hd with rfl | rfl | rfl | rfl | rfl | rfl | rfl | rfl | rfl | rfl
  · exact ⟨lamS_by (by show lamSB (defScope s_l_refusals_right) (lamSc (rfL 1 0)) = true; decide +kernel), rfl, fun _ _ _ _ _ => rfl, fun A outer s H E f c' hr => pe_dm (pv 1) D.entry (hr.mono (by decide)) (passes_call (takes_of rfl rfl rfl rfl) (fun _ _ _ _ z => z)) (pa_cons (pv 4) (pa_cons (pv 4) pa_nil))⟩
  · exact ⟨lamS_by (by show lamSB (defScope s_l_refusals_right) (lamSc (rfL 1 1)) = true; decide +kernel), rfl, fun _ _ _ _ _ => rfl, fun A outer s H E f c' hr => pe_dm (pv 1) D.entry (hr.mono (by decide)) (passes_call (takes_of rfl rfl rfl rfl) (fun _ _ _ _ z => z)) (pa_cons (pv 4) (pa_cons (pv 3) pa_nil))⟩
  · exact ⟨lamS_by (by show lamSB (defScope s_l_refusals_right) (lamSc (rfL 1 2)) = true; decide +kernel), rfl, fun _ _ _ _ _ => rfl, fun A outer s H E f c' hr => pe_dm (pv 1) D.row_at (hr.mono (by decide)) (passes_call (takes_of rfl rfl rfl rfl) (fun _ _ _ _ z => z)) (pa_cons (pv 4) pa_nil)⟩
  · exact ⟨lamS_by (by show lamSB (defScope s_l_refusals_right) (lamSc (rfL 1 3)) = true; decide +kernel), rfl, fun _ _ _ _ _ => rfl, fun A outer s H E f c' hr => pe_dm (pv 1) D.exchange (hr.mono (by decide)) (passes_call (takes_of rfl rfl rfl rfl) (fun _ _ _ _ z => z)) (pa_cons (pv 4) (pa_cons (pv 4) pa_nil))⟩
  · exact ⟨lamS_by (by show lamSB (defScope s_l_refusals_right) (lamSc (rfL 2 0)) = true; decide +kernel), rfl, fun _ _ _ _ _ => rfl, fun A outer s H E f c' hr => pe_dm (pv 1) D.entry (hr.mono (by decide)) (passes_call (takes_of rfl rfl rfl rfl) (fun _ _ _ _ z => z)) (pa_cons (pv 2) (pa_cons (pv 4) pa_nil))⟩
  · exact ⟨lamS_by (by show lamSB (defScope s_l_refusals_right) (lamSc (rfL 2 1)) = true; decide +kernel), rfl, fun _ _ _ _ _ => rfl, fun A outer s H E f c' hr => pe_dm (pv 1) D.exchange (hr.mono (by decide)) (passes_call (takes_of rfl rfl rfl rfl) (fun _ _ _ _ z => z)) (pa_cons (pv 2) (pa_cons (pv 4) pa_nil))⟩
  · exact ⟨lamS_by (by show lamSB (defScope s_l_refusals_right) (lamSc (rfL 2 2)) = true; decide +kernel), rfl, fun _ _ _ _ _ => rfl, fun A outer s H E f c' hr => pe_dm (pv 1) D.move (hr.mono (by decide)) (passes_call (takes_of rfl rfl rfl rfl) (fun _ _ _ _ z => z)) (pa_cons (pv 4) (pa_cons pe_non pa_nil))⟩
  · exact ⟨lamS_by (by show lamSB (defScope s_l_refusals_right) (lamSc (rfC)) = true; decide +kernel), rfl, fun _ _ _ _ _ => rfl, fun A outer s H E f c' hr => pe_dm (pv 1) D.move (hr.mono (by decide)) (passes_call (takes_of rfl rfl rfl rfl) (fun _ _ _ _ z => z)) (pa_cons (pv 3) (pa_cons (pv 4) pa_nil))⟩
  · exact ⟨lamS_by (by show lamSB (defScope s_l_refusals_right) (lamSc (rfL 4 0)) = true; decide +kernel), rfl, fun _ _ _ _ _ => rfl, fun A outer s H E f c' hr => pe_dm (pv 1) D.value (hr.mono (by decide)) (passes_call (takes_of rfl rfl rfl rfl) (fun _ _ _ _ z => z)) (pa_cons (pv 4) pa_nil)⟩
  · exact ⟨lamS_by (by show lamSB (defScope s_l_refusals_right) (lamSc (rfL 4 1)) = true; decide +kernel), rfl, fun _ _ _ _ _ => rfl, fun A outer s H E f c' hr => pe_dm (pv 1) D.ends (hr.mono (by decide)) (passes_call (takes_of rfl rfl rfl rfl) (fun _ _ _ _ z => z)) (pa_cons (pv 4) pa_nil)⟩
theorem FrC.extN {K : PySem.W.Frag} {H H' : Hp} {v : V} {b : Bool} (h : FrC K H v b) (e : ExtN H H') : FrC K H' v b := by
  rcases h with ⟨t, o, n, r⟩ | ⟨a, xs, r1, r2, r3, r4, r5⟩
  · exact .inl ⟨t, o.extN e, n, r⟩
  · exact .inr ⟨a, xs, r1, extN_tup e r2, r3, (fun x hx => (r4 x hx).imp fun t o => o.extN e), r5⟩
theorem odds_for {K : PySem.W.Frag} {T : List (Addr × Str)} {a : Addr} {xs : List V} {tb : TS} {D : Ends} {s0 s1 s2 s3 y4 y5 : Option V} {H1 : Hp} (hl : H1 a = some (.lst xs)) (hT : Tabs T H1)
    (turn : ∀ x ∈ xs, ∀ (b : Option V) H' (D' : Ends), ExtN H1 H' → Tabs T H' → (∀ y H'', ExtN H1 H'' → Tabs T H'' → D'.nx [s0, s1, s2, s3, some x, y] H'') → tb D' [s0, s1, s2, s3, some x, b] H')
    (hn : ∀ y4 y5 H', ExtN H1 H' → Tabs T H' → D.nx [s0, s1, s2, s3, y4, y5] H') :
    ∃ W : Nat → Nat → L2.St → Hp → Prop, (∃ m, W 0 m [s0, s1, s2, s3, y4, y5] H1) ∧ ∀ i m σ H, W i m σ H →
      ((Itl K a).stop i H ∧ D.nx σ H) ∨ ((Itl K a).go i H ∧ ∃ N : L2.St → Hp → Prop, (∀ σ' H', N σ' H' → ∃ m', m' < m ∧ W (i + 1) m' σ' H') ∧ ∀ x H', (Itl K a).yld i H x H' → gName 4 x σ H' fun σ2 H2 => tb { D with nx := N, ct := N, bk := D.nx } σ2 H2) := by
  refine for_list (K := K) (a := a) (xs := xs) (fun j σ H' => ∃ y4 y5, σ = [s0, s1, s2, s3, y4, y5] ∧ ExtN H1 H' ∧ Tabs T H') ⟨y4, y5, rfl, ExtN.refl _, hT⟩ ?_ ?_ ?_
  · rintro j σ H' _ ⟨y4, y5, rfl, e, t⟩
    exact SqL.of (e _ _ hl fun _ z => nomatch z)
  · rintro j x σ H' hj ⟨y4, y5, rfl, e, t⟩
    exact turn x (List.mem_of_getElem? hj) y5 H' _ e t fun y H'' e' t' => ⟨_, _, rfl, e', t'⟩
  · rintro σ H' ⟨y4, y5, rfl, e, t⟩
    exact hn y4 y5 H' e t
abbrev qRf (f c : Addr) : Str := (envOfC "_law_refusals_right" (defScope s_l_refusals_right) 0 f (.ref c)).qual ++ "<lambda>"
def spRefuse (K : PySem.W.Frag) (C : Addr) (T : List (Addr × Str)) : Sp := fun vs H Q _ => ∃ o nn L Tt n N F, vs = [.ref o, .ref L.p] ∧ HeapAt H o nn ∧ TabAt K C H L Tt ∧ LawT n N F Tt ∧ Away o nn L ∧ Tabs T H ∧
  ∀ H', (∀ b u, H b = some u → b ∉ [o, nn] → (∀ ps, u ≠ .tbl ps) → H' b = some u) → HeapAt H' o nn → Tabs T H' → Q (.bl true) H'
theorem ok_l_refusals_right {c Pt : Addr} {T : List (Addr × Str)} (F0 : FunC K "_law_refusals_right" "_law_refusals_right" s_l_refusals_right f fd c) (tc : TC K C) (Z : Bz mg) (D : DRf P w K mg base C cI cR) (FH : Fun K "_law_heard" "_law_heard" s_l_heard g fg) (hmH : mg "_law_heard" = some (.ref g)) (Tw : Two P w K mg base cI cR)
    (TB : TabB base mg c Pt) (hmT : (Pt, qRf f c) ∈ T) (huT : ∀ p ∈ T, p.1 = Pt → p.2 = qRf f c) : FnG P w K mg base (L2.CX P w) 8 f fd ["_law_heap_here", "_law_table"] (spRefuse K C T) := by
  refine okGC F0 sc_l_refusals_right (fun vs H Q E h => ?_) (fun A outer s H vs Q E hr hgd h => ?_)
  · obtain ⟨o, nn, L, Tt, n, N, F, rfl, _⟩ := h
    rfl
  · obtain ⟨o, nn, L, Tt, n, N, F, rfl, hh, t, lt, aw, hT, h⟩ := h
    have nd := sc_l_refusals_right.nd
    have hu := hu_of hr
    have ok := rf_oks (f := f) (c := c) (A := A) (outer := outer) (s := s) (H := H) (E0 := E) D
    generalize hLS : [dA0 K C cR, dA1 K C cR, dA2 K C cR, dA3 K C cR, dB0 K C cR, dB1 K C cR, dB2 K C cI cR, dC0 K C cI cR, dD0 K C cI, dD1 K C cI] = LS at ok
    have mem : ∀ {d : LamD} (i : Nat), [dA0 K C cR, dA1 K C cR, dA2 K C cR, dA3 K C cR, dB0 K C cR, dB1 K C cR, dB2 K C cI cR, dC0 K C cI cR, dD0 K C cI, dD1 K C cI][i]? = some d → d ∈ LS := fun {d} i e => by
      rw [← hLS]
      exact List.mem_of_getElem? e
    refine ⟨_, (pss_cons (ps_asg (pe_tup (pa_cons (pe_dn D.law_pick (hr.mono (by decide)) rfl passL (pa_cons (pv 0) (pa_cons (pe_dp (pv 1) D.basis (hr.mono (by decide))) pa_nil))) (pa_cons (pe_dn D.law_pick (hr.mono (by decide)) rfl passL (pa_cons (pv 0) (pa_cons (pe_dp (pv 1) D.columns (hr.mono (by decide))) pa_nil))) pa_nil))) (pg_tupK (K := K) (n := 2) rfl (pgs_cons (pg_name (i := 2) nd rfl (Or.inr rfl)) (pgs_cons (pg_name (i := 3) nd rfl (Or.inr rfl)) pgs_nil)) (by rfl)))
      (pss_cons (ps_for (passes_of rfl) rfl (pi_list (pe_lst (pa_cons (pv 3) (pa_cons (pe_dp (pv 1) D.places (hr.mono (by decide))) (pa_cons (pe_op op_sub pe_int pe_int) (pa_cons pe_non (pa_cons pe_bl (pa_cons pe_str (pa_cons (pe_tup (pa_cons (pv 2) pa_nil)) (pa_cons (pe_lst (pa_cons (pv 2) pa_nil)) pa_nil)))))))))) (pg_name (i := 4) nd rfl (Or.inr rfl)) (pss_one (ps_for (passes_of rfl) rfl (pi_list (pe_lst (pa_cons (pe_lam (d := dA0 K C cR) (ok _ (mem 0 rfl)) TB rfl hmT huT) (pa_cons (pe_lam (d := dA1 K C cR) (ok _ (mem 1 rfl)) TB rfl hmT huT) (pa_cons (pe_lam (d := dA2 K C cR) (ok _ (mem 2 rfl)) TB rfl hmT huT) (pa_cons (pe_lam (d := dA3 K C cR) (ok _ (mem 3 rfl)) TB rfl hmT huT) pa_nil)))))) (pg_name (i := 5) nd rfl (Or.inl rfl)) (pss_one (ps_if (pt_cmpR (op_neD hr.units) (pe_heard (ls := LS) FH hmH Tw ok (hr.mono (by decide)) rfl (pv 5)) (pe_tup (pa_cons pe_str (pa_cons pe_str pa_nil))) (nomark _)) (pss_one (ps_ret pe_bl)) pss_nil)))))
      (pss_cons (ps_for (passes_of rfl) rfl (pi_list (pe_lst (pa_cons (pv 2) (pa_cons (pe_dp (pv 1) D.places (hr.mono (by decide))) (pa_cons (pe_op op_sub pe_int pe_int) (pa_cons pe_non (pa_cons pe_bl (pa_cons pe_str (pa_cons (pe_tup (pa_cons (pv 3) pa_nil)) (pa_cons (pe_lst (pa_cons (pv 3) pa_nil)) pa_nil)))))))))) (pg_name (i := 4) nd rfl (Or.inr rfl)) (pss_one (ps_for (passes_of rfl) rfl (pi_list (pe_lst (pa_cons (pe_lam (d := dB0 K C cR) (ok _ (mem 4 rfl)) TB rfl hmT huT) (pa_cons (pe_lam (d := dB1 K C cR) (ok _ (mem 5 rfl)) TB rfl hmT huT) (pa_cons (pe_lam (d := dB2 K C cI cR) (ok _ (mem 6 rfl)) TB rfl hmT huT) pa_nil))))) (pg_name (i := 5) nd rfl (Or.inl rfl)) (pss_one (ps_if (pt_cmpR (op_neD hr.units) (pe_heard (ls := LS) FH hmH Tw ok (hr.mono (by decide)) rfl (pv 5)) (pe_tup (pa_cons pe_str (pa_cons pe_str pa_nil))) (nomark _)) (pss_one (ps_ret pe_bl)) pss_nil)))))
      (pss_cons (ps_for (passes_of rfl) rfl (pi_list (pe_lst (pa_cons pe_non (pa_cons pe_int (pa_cons (pe_tup (pa_cons pe_int (pa_cons pe_int pa_nil))) (pa_cons (pe_tup (pa_cons pe_int (pa_cons pe_int pa_nil))) (pa_cons (pe_lst (pa_cons pe_int (pa_cons pe_int pa_nil))) (pa_cons (pe_tup (pa_cons pe_bl (pa_cons pe_int pa_nil))) (pa_cons pe_str pa_nil))))))))) (pg_name (i := 4) nd rfl (Or.inr rfl)) (pss_one (ps_if (pt_cmpR (op_neD hr.units) (pe_heard (ls := LS) FH hmH Tw ok (hr.mono (by decide)) rfl (pe_lam (d := dC0 K C cI cR) (ok _ (mem 7 rfl)) TB rfl hmT huT)) (pe_tup (pa_cons pe_str (pa_cons pe_str pa_nil))) (nomark _)) (pss_one (ps_ret pe_bl)) pss_nil)))
      (pss_cons (ps_for (passes_of rfl) rfl (pi_list (pe_lst (pa_cons (pe_dp (pv 1) D.places (hr.mono (by decide))) (pa_cons (pe_op op_sub pe_int pe_int) (pa_cons pe_non (pa_cons pe_bl (pa_cons pe_str (pa_cons (pe_tup (pa_cons pe_int pa_nil)) (pa_cons (pe_lst pa_nil) pa_nil))))))))) (pg_name (i := 4) nd rfl (Or.inr rfl)) (pss_one (ps_for (passes_of rfl) rfl (pi_list (pe_lst (pa_cons (pe_lam (d := dD0 K C cI) (ok _ (mem 8 rfl)) TB rfl hmT huT) (pa_cons (pe_lam (d := dD1 K C cI) (ok _ (mem 9 rfl)) TB rfl hmT huT) pa_nil)))) (pg_name (i := 5) nd rfl (Or.inl rfl)) (pss_one (ps_if (pt_cmpR (op_neD hr.units) (pe_heard (ls := LS) FH hmH Tw ok (hr.mono (by decide)) rfl (pv 5)) (pe_tup (pa_cons pe_str (pa_cons pe_str pa_nil))) (nomark _)) (pss_one (ps_ret pe_bl)) pss_nil)))))
      (pss_one (ps_ret pe_bl))))))), ?_⟩
    obtain ⟨b1, b2, b3, b4⟩ := lt.bpos
    have out1 : ∀ {a : Addr} {G : Hp}, HeapAt G o nn → G a = none → a ≠ o ∧ a ≠ nn := fun hg ha => by
      have := heap_out hg ha
      simp only [List.mem_cons, List.not_mem_nil, or_false, not_or] at this
      exact this
    refine ⟨_, rfl, _, rfl, _, _, _, rfl, t.ins, L, Tt, rfl, t, fun ba H2 s2 nb hba => ?_⟩
    obtain ⟨q1, q2⟩ := out1 hh nb
    refine ⟨o, nn, ba, srt Tt.basis, rfl, hh.same s2, .inl (SqT.of hba), q1, q2, b1, by omega, fun pl H3 k3 hh3 hpl => ?_⟩
    have t3 := (t.same s2).draw k3 (hh.same s2) aw
    have T3 := tabs_keep (tabs_same hT s2) k3 (hh.same s2).wr
    refine ⟨_, rfl, _, rfl, _, _, _, rfl, t3.ins, L, Tt, rfl, t3, fun ca H4 s4 nc hca => ?_⟩
    obtain ⟨q3, q4⟩ := out1 hh3 nc
    refine ⟨o, nn, ca, srt Tt.cols, rfl, hh3.same s4, .inl (SqT.of hca), q3, q4, b2, by omega, fun cl H5 k5 hh5 hcl => ⟨(by show 2 ≤ sizeLine; decide), fun tp htp => ⟨tp, _, rfl, SqT.of upd_same, rfl, _, _, rfl, _, _, rfl, rfl, ?_⟩⟩⟩
    have t5 := (t3.same s4).draw k5 (hh3.same s4) aw
    have T5 := tabs_keep (tabs_same T3 s4) k5 (hh3.same s4).wr
    have hpb := srt_mem.mp hpl
    have hcc := srt_mem.mp hcl
    have ok' := lt.ok
    have rp := (ok'.mem pl).mp (.inr hpb)
    have rc := (ok'.mem cl).mp (.inl hcc)
    obtain ⟨H6, s6, hH6⟩ : ∃ H6, Same H5 H6 ∧ upd H5 tp (.tup [.int pl, .int cl]) = H6 := ⟨_, same_new htp, rfl⟩
    rw [hH6]
    clear hH6
    have t6 := t5.same s6
    have T6 := tabs_same T5 s6
    have hh6 := hh5.same s6
    have e06 : ∀ b u, H b = some u → b ∉ [o, nn] → H6 b = some u := fun b u eb nb => s6 _ _ (k5 _ _ (s4 _ _ (k3 _ _ (s2 _ _ eb) nb)) nb)
    have cb : inB Tt.basis (.int cl) = false := by
      show (decide (0 ≤ cl) && decide (cl ∈ Tt.basis)) = false
      rw [show decide (cl ∈ Tt.basis) = false from decide_eq_false fun z => ok'.dj cl z hcc, Bool.and_false]
    have pc : inB Tt.cols (.int pl) = false := by
      show (decide (0 ≤ pl) && decide (pl ∈ Tt.cols)) = false
      rw [show decide (pl ∈ Tt.cols) = false from decide_eq_false (ok'.dj pl hpb), Bool.and_false]
    have nB : inB Tt.basis (.int (Tt.spans.length : Int)) = false := by
      show (decide (0 ≤ (Tt.spans.length : Int)) && decide ((Tt.spans.length : Int) ∈ Tt.basis)) = false
      rw [show decide ((Tt.spans.length : Int) ∈ Tt.basis) = false from decide_eq_false fun z => by have := (ok'.mem _).mp (.inr z); omega, Bool.and_false]
    have nC : inB Tt.cols (.int (Tt.spans.length : Int)) = false := by
      show (decide (0 ≤ (Tt.spans.length : Int)) && decide ((Tt.spans.length : Int) ∈ Tt.cols)) = false
      rw [show decide ((Tt.spans.length : Int) ∈ Tt.cols) = false from decide_eq_false fun z => by have := (ok'.mem _).mp (.inl z); omega, Bool.and_false]
    have k2 : ∀ a b : Str, PyData.strOk a = true → PyData.strOk b = true → SeqAt.shaped (.tuple [.str a, .str b]) = true := fun a b => shaped_two
    -- the first walk
    refine ⟨_, rfl, _, rfl, _, _, _, rfl, t6.ins, L, Tt, rfl, t6, _, _, rfl, rfl, _, rfl, (by show 1 ≤ sizeLine; decide), fun p1 hp1 => ⟨_, rfl, (by show 1 ≤ sizeLine; decide), fun p2 hp2 => ⟨(by show 8 ≤ sizeLine; decide), fun lo hlo => ⟨lo, rfl, ⟨_, SqL.of upd_same⟩, ?_⟩⟩⟩⟩
    obtain ⟨HA, sA, lA, o1, o2, hHA⟩ : ∃ HA, Same H6 HA ∧ HA lo = some (.lst [.int cl, .int (Tt.spans.length : Int), .int (0 - 1), .non, .bl true, .str "0", .ref p1, .ref p2]) ∧ HA p1 = some (.tup [.int pl]) ∧ HA p2 = some (.lst [.int pl]) ∧
        upd (upd (upd H6 p1 (.tup [.int pl])) p2 (.lst [.int pl])) lo (.lst [.int cl, .int (Tt.spans.length : Int), .int (0 - 1), .non, .bl true, .str "0", .ref p1, .ref p2]) = HA :=
      ⟨_, ((same_new hp1).trans (same_new hp2)).trans (same_new hlo), upd_same, (same_new hlo) _ _ ((same_new hp2) _ _ upd_same), (same_new hlo) _ _ upd_same, rfl⟩
    rw [hHA]
    clear hHA
    have tA := t6.same sA
    have TA := tabs_same T6 sA
    have oddA : ∀ x ∈ ([.int cl, .int (Tt.spans.length : Int), .int (0 - 1), .non, .bl true, .str "0", .ref p1, .ref p2] : List V), ∃ ty, Odd K HA x ty ∧ inB Tt.basis x = false := fun x hx => by
      simp only [List.mem_cons, List.not_mem_nil, or_false] at hx
      rcases hx with rfl | rfl | rfl | rfl | rfl | rfl | rfl | rfl
      · exact ⟨_, .int _, cb⟩
      · exact ⟨_, .int _, nB⟩
      · exact ⟨_, .int _, rfl⟩
      · exact ⟨_, .non, rfl⟩
      · exact ⟨_, .bl _, rfl⟩
      · exact ⟨_, .str _, rfl⟩
      · exact ⟨_, .tup (SqT.of o1), rfl⟩
      · exact ⟨_, .lst o2, rfl⟩
    refine odds_for (K := K) lA TA (fun x hx b H' D' e1 T1 hD' => ?_) fun y4 y5 HB e1 T1 => ?_
    · obtain ⟨ty, ox, hb⟩ := oddA x hx
      refine works_loop (H0 := HA) (ds := [dA0 K C cR, dA1 K C cR, dA2 K C cR, dA3 K C cR]) (ls := LS) ?_ T1 e1 (by show 4 ≤ 100; decide) ?_ (k2 _ _ (by decide +kernel) (by decide +kernel)) hD'
      · intro d hd
        simp only [List.mem_cons, List.not_mem_nil, or_false] at hd
        rcases hd with rfl | rfl | rfl | rfl
        · exact mem 0 rfl
        · exact mem 1 rfl
        · exact mem 2 rfl
        · exact mem 3 rfl
      · have no : ∀ i, x = .int i → i ∈ Tt.basis → False := fun i e hi => by
          rw [e, lt.inb hi] at hb
          cases hb
        intro d hd y
        simp only [List.mem_cons, List.not_mem_nil, or_false] at hd
        rcases hd with rfl | rfl | rfl | rfl
        all_goals
          intro H'' Q'' e2 T2 hQ
          have tt := tA.extN e2
          have oo := ox.extN e2
        · exact ⟨_, rfl, L.p, L.dx, _, rfl, tt.ins, rfl, x, rfl, x, rfl, L, Tt, x, ty, x, ty, rfl, tt, ok', oo, oo, fun _ => err_says hQ, (fun z => by rw [hb] at z; cases z), fun i j e3 _ hi _ => (no i e3 hi).elim⟩
        · exact ⟨_, rfl, L.p, L.dx, _, rfl, tt.ins, rfl, x, rfl, _, rfl, L, Tt, x, ty, _, "int", rfl, tt, ok', oo, .int _, fun _ => err_says hQ, (fun z => by rw [hb] at z; cases z), fun i j e3 _ hi _ => (no i e3 hi).elim⟩
        · exact ⟨_, rfl, L.p, L.dx, _, rfl, tt.ins, rfl, x, rfl, L, Tt, x, ty, rfl, tt, ok', oo, fun _ => err_says hQ, fun k e3 hk => (no k e3 hk).elim⟩
        · exact ⟨_, rfl, L.p, L.dx, _, rfl, tt.ins, rfl, x, rfl, x, rfl, L, Tt, x, ty, x, ty, rfl, tt, ok', oo, oo, fun _ => err_says hQ, (fun z => by rw [hb] at z; cases z), fun i j e3 _ hi _ => (no i e3 hi).elim⟩
    · -- the second walk
      have tB := tA.extN e1
      refine ⟨_, rfl, _, rfl, _, _, _, rfl, tB.ins, L, Tt, rfl, tB, _, _, rfl, rfl, _, rfl, (by show 1 ≤ sizeLine; decide), fun p3 hp3 => ⟨_, rfl, (by show 1 ≤ sizeLine; decide), fun p4 hp4 => ⟨(by show 8 ≤ sizeLine; decide), fun l2 hl2 => ⟨l2, rfl, ⟨_, SqL.of upd_same⟩, ?_⟩⟩⟩⟩
      obtain ⟨HC, sC, lC, o3, o4, hHC⟩ : ∃ HC, Same HB HC ∧ HC l2 = some (.lst [.int pl, .int (Tt.spans.length : Int), .int (0 - 1), .non, .bl true, .str "0", .ref p3, .ref p4]) ∧ HC p3 = some (.tup [.int cl]) ∧ HC p4 = some (.lst [.int cl]) ∧
          upd (upd (upd HB p3 (.tup [.int cl])) p4 (.lst [.int cl])) l2 (.lst [.int pl, .int (Tt.spans.length : Int), .int (0 - 1), .non, .bl true, .str "0", .ref p3, .ref p4]) = HC :=
        ⟨_, ((same_new hp3).trans (same_new hp4)).trans (same_new hl2), upd_same, (same_new hl2) _ _ ((same_new hp4) _ _ upd_same), (same_new hl2) _ _ upd_same, rfl⟩
      rw [hHC]
      clear hHC
      have tC := tB.same sC
      have TC' := tabs_same T1 sC
      have oddC : ∀ x ∈ ([.int pl, .int (Tt.spans.length : Int), .int (0 - 1), .non, .bl true, .str "0", .ref p3, .ref p4] : List V), ∃ ty, Odd K HC x ty ∧ inB Tt.cols x = false := fun x hx => by
        simp only [List.mem_cons, List.not_mem_nil, or_false] at hx
        rcases hx with rfl | rfl | rfl | rfl | rfl | rfl | rfl | rfl
        · exact ⟨_, .int _, pc⟩
        · exact ⟨_, .int _, nC⟩
        · exact ⟨_, .int _, rfl⟩
        · exact ⟨_, .non, rfl⟩
        · exact ⟨_, .bl _, rfl⟩
        · exact ⟨_, .str _, rfl⟩
        · exact ⟨_, .tup (SqT.of o3), rfl⟩
        · exact ⟨_, .lst o4, rfl⟩
      refine odds_for (K := K) lC TC' (fun x hx b H' D' e2 T2 hD' => ?_) fun y4 y5 HD e2 T2 => ?_
      · obtain ⟨ty, ox, hb⟩ := oddC x hx
        refine works_loop (H0 := HC) (ds := [dB0 K C cR, dB1 K C cR, dB2 K C cI cR]) (ls := LS) ?_ T2 e2 (by show 3 ≤ 100; decide) ?_ (k2 _ _ (by decide +kernel) (by decide +kernel)) hD'
        · intro d hd
          simp only [List.mem_cons, List.not_mem_nil, or_false] at hd
          rcases hd with rfl | rfl | rfl
          · exact mem 4 rfl
          · exact mem 5 rfl
          · exact mem 6 rfl
        · have no : ∀ j, x = .int j → j ∈ Tt.cols → False := fun i e hi => by
            rw [e, lt.inc hi] at hb
            cases hb
          intro d hd y
          simp only [List.mem_cons, List.not_mem_nil, or_false] at hd
          rcases hd with rfl | rfl | rfl
          all_goals
            intro H'' Q'' e3 T3 hQ
            have tt := tC.extN e3
            have oo := ox.extN e3
          · exact ⟨_, rfl, L.p, L.dx, _, rfl, tt.ins, rfl, _, rfl, x, rfl, L, Tt, _, "int", x, ty, rfl, tt, ok', .int _, oo, (fun z => by rw [lt.inb hpb] at z; cases z), fun _ _ => err_says hQ, fun i j _ e4 _ hj => (no j e4 hj).elim⟩
          · exact ⟨_, rfl, L.p, L.dx, _, rfl, tt.ins, rfl, _, rfl, x, rfl, L, Tt, _, "int", x, ty, rfl, tt, ok', .int _, oo, (fun z => by rw [lt.inb hpb] at z; cases z), fun _ _ => err_says hQ, fun i j _ e4 _ hj => (no j e4 hj).elim⟩
          · exact ⟨_, rfl, L.p, L.dx, _, rfl, tt.ins, rfl, x, rfl, L, Tt, x, ty, .non, rfl, tt, oo, fun _ => err_says hQ, fun z => by rw [hb] at z; cases z⟩
      · -- the third walk
        have tD := tC.extN e2
        refine ⟨(by show 2 ≤ sizeLine; decide), fun p5 hp5 => ⟨(by show 2 ≤ sizeLine; decide), fun p6 hp6 => ⟨(by show 2 ≤ sizeLine; decide), fun p7 hp7 => ⟨(by show 2 ≤ sizeLine; decide), fun p8 hp8 => ⟨(by show 7 ≤ sizeLine; decide), fun l3 hl3 => ⟨l3, rfl, ⟨_, SqL.of upd_same⟩, ?_⟩⟩⟩⟩⟩⟩
        obtain ⟨HE, sE, lE, o5, o6, o7, o8, hHE⟩ : ∃ HE, Same HD HE ∧ HE l3 = some (.lst [.non, .int 1, .ref p5, .ref p6, .ref p7, .ref p8, .str "1"]) ∧ HE p5 = some (.tup [.int 2, .int 2]) ∧ HE p6 = some (.tup [.int 1, .int 0]) ∧ HE p7 = some (.lst [.int 1, .int 1]) ∧ HE p8 = some (.tup [.bl true, .int 1]) ∧
            upd (upd (upd (upd (upd HD p5 (.tup [.int 2, .int 2])) p6 (.tup [.int 1, .int 0])) p7 (.lst [.int 1, .int 1])) p8 (.tup [.bl true, .int 1])) l3 (.lst [.non, .int 1, .ref p5, .ref p6, .ref p7, .ref p8, .str "1"]) = HE :=
          ⟨_, ((((same_new hp5).trans (same_new hp6)).trans (same_new hp7)).trans (same_new hp8)).trans (same_new hl3), upd_same, (same_new hl3) _ _ ((same_new hp8) _ _ ((same_new hp7) _ _ ((same_new hp6) _ _ upd_same))), (same_new hl3) _ _ ((same_new hp8) _ _ ((same_new hp7) _ _ upd_same)), (same_new hl3) _ _ ((same_new hp8) _ _ upd_same), (same_new hl3) _ _ upd_same, rfl⟩
        rw [hHE]
        clear hHE
        have tE := tD.same sE
        have TE' := tabs_same T2 sE
        have oddE : ∀ x ∈ ([.non, .int 1, .ref p5, .ref p6, .ref p7, .ref p8, .str "1"] : List V), FrC K HE x false := fun x hx => by
          simp only [List.mem_cons, List.not_mem_nil, or_false] at hx
          rcases hx with rfl | rfl | rfl | rfl | rfl | rfl | rfl
          · exact .inl ⟨_, .non, by decide, rfl⟩
          · exact .inl ⟨_, .int _, by decide, rfl⟩
          · refine .inr ⟨p5, _, rfl, SqT.of o5, (by show 2 < sizeLine; decide), fun x hx => ?_, by decide⟩
            simp only [List.mem_cons, List.not_mem_nil, or_false] at hx
            rcases hx with rfl | rfl
            · exact ⟨_, .int _⟩
            · exact ⟨_, .int _⟩
          · refine .inr ⟨p6, _, rfl, SqT.of o6, (by show 2 < sizeLine; decide), fun x hx => ?_, by decide⟩
            simp only [List.mem_cons, List.not_mem_nil, or_false] at hx
            rcases hx with rfl | rfl
            · exact ⟨_, .int _⟩
            · exact ⟨_, .int _⟩
          · exact .inl ⟨_, .lst o7, by decide, rfl⟩
          · refine .inr ⟨p8, _, rfl, SqT.of o8, (by show 2 < sizeLine; decide), fun x hx => ?_, by decide⟩
            simp only [List.mem_cons, List.not_mem_nil, or_false] at hx
            rcases hx with rfl | rfl
            · exact ⟨_, .bl _⟩
            · exact ⟨_, .int _⟩
          · exact .inl ⟨_, .str _, by decide, rfl⟩
        refine odds_for (K := K) lE TE' (fun x hx b H' D' e3 T3 hD' => ?_) fun y4 y5 HF e3 T3 => ?_
        · have fx := oddE x hx
          refine ⟨T3, fun f1 c1 H7 e7 T7 n7 l7 => ?_⟩
          have e37 := e3.trans e7
          refine heard_step (X := cxOf (L2.CX P w) P w K mg base rfN "_law_refusals_right" (defScope s_l_refusals_right) f (.ref c) A outer s H E) (te := fun _ _ Q => Q (.ref f1) H7) (H := H7) (H0 := HE) (ls := LS) (d := dC0 K C cI cR) (w1 := "number") (w2 := "value") (mem 7 rfl) (fun Q q => q) l7 e37 (newN_of e3 n7) T7 ?_ (k2 _ _ (by decide +kernel) (by decide +kernel)) fun H'' _ T'' e'' _ => hD' b H'' e'' T''
          intro H'' Q'' e4 T4 hQ
          have tt := tE.extN e4
          exact ⟨_, rfl, L.p, L.dx, _, rfl, tt.ins, rfl, _, rfl, x, rfl, L, Tt, _, "int", x, rfl, tt, .int _, (fun z => by rw [lt.inc hcc] at z; cases z), fun _ => ⟨fx.extN e4, err_saysI hQ⟩⟩
        · -- the fourth walk
          have tF := tE.extN e3
          refine ⟨_, rfl, _, _, _, rfl, tF.ins, L, Tt, rfl, tF, _, _, rfl, rfl, (by show 1 ≤ sizeLine; decide), fun p9 hp9 => ⟨(by show 0 ≤ sizeLine; decide), fun pa hpa => ⟨(by show 7 ≤ sizeLine; decide), fun l4 hl4 => ⟨l4, rfl, ⟨_, SqL.of upd_same⟩, ?_⟩⟩⟩⟩
          obtain ⟨HG, sG, lG, o9, oa, hHG⟩ : ∃ HG, Same HF HG ∧ HG l4 = some (.lst [.int (Tt.spans.length : Int), .int (0 - 1), .non, .bl true, .str "0", .ref p9, .ref pa]) ∧ HG p9 = some (.tup [.int 0]) ∧ HG pa = some (.lst []) ∧
              upd (upd (upd HF p9 (.tup [.int 0])) pa (.lst [])) l4 (.lst [.int (Tt.spans.length : Int), .int (0 - 1), .non, .bl true, .str "0", .ref p9, .ref pa]) = HG :=
            ⟨_, ((same_new hp9).trans (same_new hpa)).trans (same_new hl4), upd_same, (same_new hl4) _ _ ((same_new hpa) _ _ upd_same), (same_new hl4) _ _ upd_same, rfl⟩
          rw [hHG]
          clear hHG
          have tG := tF.same sG
          have TG' := tabs_same T3 sG
          have oddG : ∀ x ∈ ([.int (Tt.spans.length : Int), .int (0 - 1), .non, .bl true, .str "0", .ref p9, .ref pa] : List V), ∃ ty, Odd K HG x ty ∧ okN x ((Tt.spans.length : Int) - 1) = false := fun x hx => by
            simp only [List.mem_cons, List.not_mem_nil, or_false] at hx
            rcases hx with rfl | rfl | rfl | rfl | rfl | rfl | rfl
            · exact ⟨_, .int _, decide_eq_false (by omega)⟩
            · exact ⟨_, .int _, by show decide (0 ≤ (0 - 1 : Int) ∧ (0 - 1 : Int) ≤ (Tt.spans.length : Int) - 1) = false; exact decide_eq_false (by omega)⟩
            · exact ⟨_, .non, rfl⟩
            · exact ⟨_, .bl _, rfl⟩
            · exact ⟨_, .str _, rfl⟩
            · exact ⟨_, .tup (SqT.of o9), rfl⟩
            · exact ⟨_, .lst oa, rfl⟩
          refine odds_for (K := K) lG TG' (fun x hx b H' D' e4 T4 hD' => ?_) fun y4 y5 HZ e4 T4 => ?_
          · obtain ⟨ty, ox, hb⟩ := oddG x hx
            refine works_loop (H0 := HG) (ds := [dD0 K C cI, dD1 K C cI]) (ls := LS) ?_ T4 e4 (by show 2 ≤ 100; decide) ?_ (k2 _ _ (by decide +kernel) (by decide +kernel)) hD'
            · intro d hd
              simp only [List.mem_cons, List.not_mem_nil, or_false] at hd
              rcases hd with rfl | rfl
              · exact mem 8 rfl
              · exact mem 9 rfl
            · intro d hd y
              simp only [List.mem_cons, List.not_mem_nil, or_false] at hd
              rcases hd with rfl | rfl
              all_goals
                intro H'' Q'' e5 T5 hQ
                have tt := tG.extN e5
                have oo := ox.extN e5
              · exact ⟨_, rfl, L.p, L.dx, _, rfl, tt.ins, rfl, x, rfl, L, Tt, x, ty, rfl, tt, ok', oo, fun _ => err_saysI hQ, fun z => by rw [hb] at z; cases z⟩
              · exact ⟨_, rfl, L.p, L.dx, _, rfl, tt.ins, rfl, x, rfl, L, Tt, x, ty, rfl, tt, oo, hb, err_saysI hQ⟩
          · have eAll : ExtN H6 HZ := ((((((((extN_same sA).trans e1).trans (extN_same sC)).trans e2).trans (extN_same sE)).trans e3).trans (extN_same sG)).trans e4)
            exact h HZ (fun b u eb nb nt => eAll b u (e06 b u eb nb) nt) (hh6.extN eAll) T4
end
end K24
/-! K24O: _law_back_right. -/
namespace K24
open PySem PySem.Spec PyProof.Rows L2 LamX
/-! K24O: ### the rows of a table, as data -/
def entD (c : Int) (q : Fr) : PyData := .tuple [.int c, frD q]
def rowDs (T : Tab) (k : Int) : List PyData := ((nzs T k).map fun c => entD c (rowF T k c)).mergeSort (PySem.W.dataLe false fun d => d)
def allDs (T : Tab) : PyData := .list ((srt T.basis).map fun k => .list (rowDs T k))
/-- the tuples at ts read as the entries ds -/
def EntsAt (K : PySem.W.Frag) (H : Hp) (ts : List Addr) (ds : List PyData) : Prop := Paired (fun t d => ∃ (c : Int) (a : Addr) (q : Fr), d = entD c q ∧ Sm q ∧ c.natAbs < 2 ^ 1500 ∧ SqT K H t [.int c, .ref a] ∧ FrA K H a q) ts ds
theorem EntsAt.same {K : PySem.W.Frag} {H H' : Hp} {ts : List Addr} {ds : List PyData} (h : EntsAt K H ts ds) (s : Same H H') : EntsAt K H' ts ds := by
  unfold EntsAt at *
  induction h with
  | nil => exact .nil
  | cons a t ih =>
    obtain ⟨c, b, q, e, s1, s2, h1, h2⟩ := a
    exact .cons ⟨c, b, q, e, s1, s2, same_tup s h1, h2.same s⟩ ih
theorem EntsAt.put {K : PySem.W.Frag} {H : Hp} {ts : List Addr} {ds : List PyData} {D : Addr} {xs : List V} {o : HO} (h : EntsAt K H ts ds) (hD : H D = some (.lst xs)) : EntsAt K (upd H D o) ts ds := by
  unfold EntsAt at *
  induction h with
  | nil => exact .nil
  | cons a t ih =>
    obtain ⟨c, b, q, e, s1, s2, h1, h2⟩ := a
    exact .cons ⟨c, b, q, e, s1, s2, tup_upd h1 hD (fun _ z => nomatch z) (fun _ _ z => nomatch z), tup_upd h2 hD (fun _ z => nomatch z) (fun _ _ z => nomatch z)⟩ ih
theorem EntsAt.dp {K : PySem.W.Frag} {H : Hp} {ts : List Addr} {ds : List PyData} (h : EntsAt K H ts ds) : DpAll K H (ts.map V.ref) ds := by
  unfold EntsAt at h
  induction h with
  | nil => exact .nil
  | cons a t ih =>
    obtain ⟨c, b, q, rfl, s1, s2, h1, h2⟩ := a
    exact .cons (.tup h1 (.cons (.int _) (.cons (frD_dp h2) .nil))) ih
theorem entD_ok {c : Int} {q : Fr} (hc : c.natAbs < 2 ^ 1500) (h : Sm q) : (entD c q).showable = true ∧ (entD c q).hasDict = false ∧ (entD c q).depth ≤ 3 ∧ (entD c q).shown.length ≤ 4511 := by
  obtain ⟨h1, h2, h3, h4⟩ := frD_ok h
  have i1 := int_showable hc
  refine ⟨?_, ?_, ?_, ?_⟩
  · simp only [entD, PyData.showable, PyData.showableAll, Bool.and_true, Bool.and_eq_true]
    simp only [PyData.showable] at i1
    exact ⟨i1, h1⟩
  · simp only [entD, PyData.hasDict, PyData.hasDictAll, h2, Bool.or_self]
  · simp only [entD, PyData.depth, PyData.depthAll]
    omega
  · have := pair_shown (.int c) (frD q)
    have := int_shown hc
    unfold entD
    omega
structure RowsAtD (K : PySem.W.Frag) (H : Hp) (D : Addr) (rs : List Addr) (dss : List (List PyData)) : Prop where
  all : Paired (fun r ds => ∃ ts : List Addr, H r = some (.lst (ts.map V.ref)) ∧ r ≠ D ∧ EntsAt K H ts ds) rs dss
theorem RowsAtD.same {K : PySem.W.Frag} {H H' : Hp} {D : Addr} {rs : List Addr} {dss : List (List PyData)} (h : RowsAtD K H D rs dss) (s : Same H H') : RowsAtD K H' D rs dss := by
  obtain ⟨h⟩ := h
  refine ⟨?_⟩
  induction h with
  | nil => exact .nil
  | cons a t ih =>
    obtain ⟨ts, e, n, x⟩ := a
    exact .cons ⟨ts, s _ _ e, n, x.same s⟩ ih
theorem RowsAtD.put {K : PySem.W.Frag} {H : Hp} {D : Addr} {rs : List Addr} {dss : List (List PyData)} {xs : List V} {o : HO} (h : RowsAtD K H D rs dss) (hD : H D = some (.lst xs)) : RowsAtD K (upd H D o) D rs dss := by
  obtain ⟨h⟩ := h
  refine ⟨?_⟩
  induction h with
  | nil => exact .nil
  | cons a t ih =>
    obtain ⟨ts, e, n, x⟩ := a
    exact .cons ⟨ts, by rw [upd_ne n]; exact e, n, x.put hD⟩ ih
theorem RowsAtD.dp {K : PySem.W.Frag} {H : Hp} {D : Addr} {rs : List Addr} {dss : List (List PyData)} (h : RowsAtD K H D rs dss) : DpAll K H (rs.map V.ref) (dss.map PyData.list) := by
  obtain ⟨h⟩ := h
  induction h with
  | nil => exact .nil
  | cons a t ih =>
    obtain ⟨ts, e, n, x⟩ := a
    exact .cons (.lst (SqL.of e) x.dp) ih
theorem ents_of {K : PySem.W.Frag} {H : Hp} {ts : List Addr} {ds : List PyData} (h : EntsAt K H ts ds) : ∀ d ∈ ds, ∃ c q, d = entD c q ∧ Sm q ∧ c.natAbs < 2 ^ 1500 := by
  unfold EntsAt at h
  induction h with
  | nil => intro d hd; cases hd
  | cons a t ih =>
    intro d hd
    obtain ⟨c, b, q, e, s1, s2, h1, h2⟩ := a
    rcases List.mem_cons.mp hd with rfl | hd
    · exact ⟨c, q, e, s1, s2⟩
    · exact ih d hd
theorem showAll {P : PyData → Bool} {PA : List PyData → Bool} (h0 : PA [] = true) (h1 : ∀ x r, PA (x :: r) = (P x && PA r)) : ∀ xs : List PyData, (∀ x ∈ xs, P x = true) → PA xs = true
  | [], _ => h0
  | x :: r, h => by rw [h1, h x List.mem_cons_self, showAll h0 h1 r fun y hy => h y (List.mem_cons_of_mem _ hy)]; rfl
theorem depthAll_le {n : Nat} : ∀ xs : List PyData, (∀ x ∈ xs, x.depth ≤ n) → PyData.depthAll xs ≤ n
  | [], _ => by simp [PyData.depthAll]
  | x :: r, h => by
    have h1 := h x List.mem_cons_self
    have h2 := depthAll_le r fun y hy => h y (List.mem_cons_of_mem _ hy)
    simp only [PyData.depthAll]
    omega
theorem dictAll : ∀ xs : List PyData, (∀ x ∈ xs, x.hasDict = false) → PyData.hasDictAll xs = false
  | [], _ => by simp [PyData.hasDictAll]
  | x :: r, h => by simp only [PyData.hasDictAll, h x List.mem_cons_self, dictAll r fun y hy => h y (List.mem_cons_of_mem _ hy), Bool.or_self]
/-- a list of data that can be shown -/
theorem list_ok {xs : List PyData} {n B : Nat} (h : ∀ x ∈ xs, x.showable = true ∧ x.hasDict = false ∧ x.depth ≤ n ∧ x.shown.length ≤ B) : (PyData.list xs).showable = true ∧ (PyData.list xs).hasDict = false ∧ (PyData.list xs).depth ≤ n + 1 ∧ (PyData.list xs).shown.length ≤ xs.length * (B + 2) + 2 := by
  refine ⟨?_, ?_, ?_, list_shown fun x hx => (h x hx).2.2.2⟩
  · simp only [PyData.showable]
    exact showAll (P := PyData.showable) (by simp [PyData.showableAll]) (fun x r => by simp [PyData.showableAll]) xs fun x hx => (h x hx).1
  · simp only [PyData.hasDict]
    exact dictAll xs fun x hx => (h x hx).2.1
  · simp only [PyData.depth]
    have := depthAll_le xs fun x hx => (h x hx).2.2.1
    omega
theorem alike_ent (c c' : Int) (q q' : Fr) : PySem.W.alike (entD c q) (entD c' q') = true := by
  simp [entD, frD, PySem.W.alike, PySem.W.alikeAll]
section
variable {P : Program} {w : World} {K : PySem.W.Frag} {mg : Str → Option Value} {base : Heap} {f g : Addr} {fd fg : FuncData} {cI cR C z : Addr}
/-- the items of a row, sorted -/
theorem sorted_items {H : Hp} {d : Addr} {kvs : List (Key × V)} {ks : List Int} {gq : Int → Fr} {D : Addr} {Q : VK} (hd : H d = some (.dK kvs)) (pd : PD (HeldR K H) kvs ks gq) (hq : ∀ k ∈ ks, Sm (gq k) ∧ k.natAbs < 2 ^ 1500) (hD : ∃ xs, H D = some (.lst xs))
    (h : ∀ (r : Addr) (ts : List Addr) H', Same H H' → H' r = some (.lst (ts.map V.ref)) → r ≠ D → EntsAt K H' ts ((ks.map fun c => entD c (gq c)).mergeSort (PySem.W.dataLe false fun d => d)) → Q (.ref r) H') :
    LiI.rItemsL (.ref d) H (fun v H1 => rSortD K [v] H1 Q) := by
  refine ⟨d, kvs, rfl, hd, fun H1 p ts s1 np nt pts e1 p1 => ?_⟩
  have pd1 : PD (HeldR K H1) kvs ks gq := pd.imp fun v x ⟨a, e, r⟩ => ⟨a, e, r.same s1⟩
  -- the tuples with the keys they stand for
  have all : Paired (fun t k => ∃ a, H1 t = some (.tup [.int k, .ref a]) ∧ FrA K H1 a (gq k)) ts ks := by
    clear hd pd nt pts e1 hq h
    unfold PD at pd1
    induction pd1 generalizing ts with
    | nil => cases p1; exact .nil
    | cons a t ih =>
      cases p1 with
      | cons b u =>
        obtain ⟨e1, v, e2, r⟩ := a
        refine .cons ⟨v, ?_, r⟩ (ih _ u)
        rw [b, e1, e2]
        rfl
  have zip : ∃ bs : List (V × PyData), bs.map (·.1) = ts.map V.ref ∧ bs.map (·.2) = ks.map (fun c => entD c (gq c)) ∧ (∀ b ∈ bs, L2.Dp K H1 b.1 b.2) ∧ ∀ b ∈ bs, ∃ t c a q, b.1 = .ref t ∧ b.2 = entD c q ∧ Sm q ∧ c.natAbs < 2 ^ 1500 ∧ SqT K H1 t [.int c, .ref a] ∧ FrA K H1 a q := by
    clear hd pd nt pts e1 p1 pd1 h
    induction all with
    | nil => exact ⟨[], rfl, rfl, (fun b hb => absurd hb (by simp)), (fun b hb => absurd hb (by simp))⟩
    | @cons t k l1 l2 a u ih =>
      obtain ⟨bs, i1, i2, i3, i4⟩ := ih fun k hk => hq k (List.mem_cons_of_mem _ hk)
      obtain ⟨v, e, r⟩ := a
      obtain ⟨q1, q2⟩ := hq k List.mem_cons_self
      refine ⟨(.ref t, entD k (gq k)) :: bs, by rw [List.map_cons, i1]; rfl, by rw [List.map_cons, i2]; rfl, fun b hb => ?_, fun b hb => ?_⟩
      · rcases List.mem_cons.mp hb with rfl | hb
        · exact .tup (SqT.of e) (.cons (.int _) (.cons (frD_dp r) .nil))
        · exact i3 b hb
      · rcases List.mem_cons.mp hb with rfl | hb
        · exact ⟨t, k, v, gq k, rfl, rfl, q1, q2, SqT.of e, r⟩
        · exact i4 b hb
  obtain ⟨bs, z1, z2, z3, z4⟩ := zip
  refine ⟨p, bs, rfl, by rw [z1]; exact SqL.of e1, z3, ?_, ?_, fun b hb => ?_, fun r hr => ?_⟩
  · rw [z2]
    intro d1 h1 d2 h2
    obtain ⟨c1, _, rfl⟩ := List.mem_map.mp h1
    obtain ⟨c2, _, rfl⟩ := List.mem_map.mp h2
    exact alike_ent _ _ _ _
  · rw [z2]
    refine .inl fun d1 h1 => ?_
    obtain ⟨c1, _, rfl⟩ := List.mem_map.mp h1
    exact ⟨_, _, rfl⟩
  · obtain ⟨t, c, a, q, _, e, s1, s2, _⟩ := z4 b hb
    rw [e]
    have := (entD_ok s2 s1).2.2.1
    omega
  · have hnd : r ≠ D := fun z => by
      obtain ⟨xs, hx⟩ := hD
      rw [z, s1 _ _ hx] at hr
      cases hr
    have sr := same_new (o := .lst ((bs.mergeSort (PySem.W.dataLe false (·.2))).map (·.1))) hr
    have zz : ∃ ts' : List Addr, (bs.mergeSort (PySem.W.dataLe false (·.2))).map (·.1) = ts'.map V.ref ∧ EntsAt K H1 ts' ((bs.mergeSort (PySem.W.dataLe false (·.2))).map (·.2)) := by
      have hm : ∀ b ∈ bs.mergeSort (PySem.W.dataLe false (·.2)), ∃ t c a q, b.1 = V.ref t ∧ b.2 = entD c q ∧ Sm q ∧ c.natAbs < 2 ^ 1500 ∧ SqT K H1 t [.int c, .ref a] ∧ FrA K H1 a q := fun b hb => z4 b (List.mem_mergeSort.mp hb)
      generalize bs.mergeSort (PySem.W.dataLe false (·.2)) = cs at hm
      induction cs with
      | nil => exact ⟨[], rfl, .nil⟩
      | cons b r ih =>
        obtain ⟨ts', i1, i2⟩ := ih fun x hx => hm x (List.mem_cons_of_mem _ hx)
        obtain ⟨t, c, a, q, e1, e2, s1, s2, h1, h2⟩ := hm b List.mem_cons_self
        exact ⟨t :: ts', by rw [List.map_cons, i1, e1]; rfl, .cons ⟨c, a, q, e2, s1, s2, h1, h2⟩ i2⟩
    obtain ⟨ts', y1, y2⟩ := zz
    have em : (bs.mergeSort (PySem.W.dataLe false (·.2))).map (·.2) = (ks.map fun c => entD c (gq c)).mergeSort (PySem.W.dataLe false fun d => d) := by
      rw [← z2]
      exact List.map_mergeSort fun a _ b _ => rfl
    rw [em] at y2
    exact h r ts' _ (Same.trans s1 sr) (by rw [upd_same, y1]) hnd (y2.same sr)
theorem LawT.row_small {n N : Nat} {F : Int → Nat → Int} {T : Tab} (L : LawT n N F T) {k : Int} (hk : k ∈ T.basis) : ∀ c ∈ nzs T k, Sm (rowF T k c) ∧ c.natAbs < 2 ^ 1500 := fun c hc => by
  have hcc : c ∈ T.cols := srt_mem.mp (List.mem_filter.mp hc).1
  have rc := (L.ok.mem c).mp (.inl hcc)
  have few := L.ok.few
  refine ⟨sm_norm (L.ok.eb k hk c hcc) L.ok.ub, Nat.lt_of_lt_of_le (by omega : c.natAbs < 2 ^ 5) (Nat.pow_le_pow_right (by decide) (by decide))⟩
theorem seq_asg {te : TE} {g : TG} {u : TS} {D : Ends} {σ : L2.St} {H : Hp} (h : te σ H fun x H1 => g x σ H1 fun σ1 H2 => u D σ1 H2) : tSeq (tAsg te g) u D σ H := h
theorem cb_one {r : List V → Hp → VK → Prop} {te : TE} {σ : L2.St} {H : Hp} {Q : VK} (h : te σ H fun x H1 => r [x] H1 Q) : tCB r (tCons te tNil) σ H Q := h
theorem cb_and {r : List V → Hp → VK → Prop} {q : R2} {te tb tc : TE} {σ : L2.St} {H : Hp} {D : Ends} (h : te σ H fun x H1 => r [x] H1 fun y H2 => tb σ H2 fun z H3 => q y z H3 fun u H4 => ∃ c, u = .bl c ∧ if c = true then tc σ H4 D.rt else D.rt (.bl false) H4) : tRet (tAndV (tOp q (tCB r (tCons te tNil)) tb) tc) D σ H := h
theorem shown_rows {n N : Nat} {F : Int → Nat → Int} {L : Lay} {Tt : Tab} {s0 s2 s3 s4 s5 s6 s7 : Option V} {H : Hp} {Q : VK} (t : TabAt K C H L Tt) (lt : LawT n N F Tt)
    (h : ∀ (D : Addr) (rs : List Addr) H', Same H H' → H D = none → H' D = some (.lst (rs.map V.ref)) → RowsAtD K H' D rs ((srt Tt.basis).map (rowDs Tt)) → Q (.ref D) H') :
    tLc (iTup K (tProp C (spKeys K C Tab.basis) [] E0 (tVar 1))) (gName 5) tYes (tCB (rSortD K) (tCons (LiI.tListItems (tMeth C "row_at" (spRowAt K C cR) [] E0 (tVar 1) (tCons (tVar 5) tNil))) tNil)) [5] [s0, some (.ref L.p), s2, s3, s4, s5, s6, s7] H Q := by
  refine ⟨_, rfl, _, _, _, rfl, t.ins, L, Tt, rfl, t, fun ba H1 s1 nb hba => ⟨ba, rfl, ⟨_, SqT.of hba⟩, fun D hD => lc_tup (K := K) (xs := (srt Tt.basis).map V.int) (fun j H' => Same H1 H' ∧ ∃ rs : List Addr, H' D = some (.lst (rs.map V.ref)) ∧ RowsAtD K H' D rs (((srt Tt.basis).take j).map (rowDs Tt))) ?_ ?_ ?_ ?_⟩⟩
  · exact ⟨same_new hD, [], upd_same, ⟨by rw [List.take_zero]; exact .nil⟩⟩
  · exact fun j H' _ q => SqT.of (q.1 _ _ hba)
  · rintro j x H' hj ⟨s2', rs, e2, r2⟩
    rw [List.getElem?_map] at hj
    obtain ⟨k, hk, rfl⟩ : ∃ k, (srt Tt.basis)[j]? = some k ∧ V.int k = x := by
      cases e : (srt Tt.basis)[j]? with
      | none => rw [e] at hj; cases hj
      | some y => rw [e] at hj; exact ⟨y, rfl, Option.some.inj hj⟩
    have hkb : k ∈ Tt.basis := srt_mem.mp (List.mem_of_getElem? hk)
    have t2 := t.same (s1.trans s2')
    refine ⟨rfl, ?_⟩
    refine iteT (B := Same H1 H' ∧ ∃ rs : List Addr, H' D = some (.lst (rs.map V.ref)) ∧ RowsAtD K H' D rs (((srt Tt.basis).take (j + 1)).map (rowDs Tt))) ?_
    refine ⟨_, rfl, L.p, _, _, rfl, t2.ins, rfl, _, rfl, L, Tt, .int k, "int", rfl, t2, lt.ok, .int _, (fun e => by rw [lt.inb hkb] at e; cases e), fun k' ek _ a H3 kvs s3' na ea pd => ?_⟩
    cases ek
    show LiI.rItemsL (.ref a) H3 fun v G => rSortD K [v] G fun y H4 => ∃ acc, H4 D = some (.lst acc) ∧ acc.length < sizeLine ∧ Same H1 (upd H4 D (.lst (acc ++ [y]))) ∧ ∃ rs : List Addr, (upd H4 D (.lst (acc ++ [y]))) D = some (.lst (rs.map V.ref)) ∧ RowsAtD K (upd H4 D (.lst (acc ++ [y]))) D rs (((srt Tt.basis).take (j + 1)).map (rowDs Tt))
    refine sorted_items ea pd (lt.row_small hkb) ⟨_, s3' _ _ e2⟩ fun r ts H4 s4' e4 nD ents => ?_
    have e5 := (s3'.trans s4') _ _ e2
    refine ⟨_, e5, ?_, same_put ((s2'.trans s3').trans s4') hD, rs ++ [r], by rw [upd_same, List.map_append]; rfl, ?_⟩
    · rw [List.length_map, Paired.length r2.all, List.length_map]
      refine Nat.lt_of_le_of_lt (List.length_take_le' ..) (Nat.lt_of_le_of_lt ?_ (by decide : 20 < sizeLine))
      rw [srt_length]
      exact lt.ok.bl
    · rw [take_snoc hk, List.map_append]
      refine ⟨Paired.snoc ((r2.same (s3'.trans s4')).put e5).all ⟨ts, by rw [upd_ne nD]; exact e4, nD, ents.put e5⟩⟩
  · rintro H' ⟨s2', rs, e2, r2⟩
    rw [List.length_map, take_all] at r2
    exact h D rs H' (s1.trans s2') (s1.free hD) e2 r2
theorem LawT.all_ok {n N : Nat} {F : Int → Nat → Int} {T : Tab} (L : LawT n N F T) : (allDs T).showable = true ∧ (allDs T).hasDict = false ∧ (allDs T).depth ≤ 5 ∧ (allDs T).shown.length ≤ sizeLine := by
  have h1 : ∀ x ∈ (srt T.basis).map (fun k => PyData.list (rowDs T k)), x.showable = true ∧ x.hasDict = false ∧ x.depth ≤ 4 ∧ x.shown.length ≤ 100000 := fun x hx => by
    obtain ⟨k, hk, rfl⟩ := List.mem_map.mp hx
    have hkb := srt_mem.mp hk
    have len : (rowDs T k).length ≤ 20 := by
      unfold rowDs
      rw [List.length_mergeSort, List.length_map]
      refine Nat.le_trans (List.length_filter_le ..) ?_
      rw [srt_length]
      exact L.ok.cl
    obtain ⟨a, b, c, d⟩ := list_ok (n := 3) (B := 4511) (xs := rowDs T k) fun d hd => by
      have hd : d ∈ ((nzs T k).map fun c => entD c (rowF T k c)) := List.mem_mergeSort.mp hd
      obtain ⟨c, hc, rfl⟩ := List.mem_map.mp hd
      obtain ⟨s1, s2⟩ := L.row_small hkb c hc
      exact entD_ok s2 s1
    refine ⟨a, b, c, Nat.le_trans d ?_⟩
    have := Nat.mul_le_mul_right (4511 + 2) len
    omega
  obtain ⟨a, b, c, d⟩ := list_ok h1
  refine ⟨a, b, c, Nat.le_trans d ?_⟩
  rw [List.length_map, srt_length]
  have := Nat.mul_le_mul_right (100000 + 2) L.ok.bl
  have big : 2100000 ≤ sizeLine := by rw [sizeLine_eq]; decide +kernel
  exact Nat.le_trans (Nat.le_trans (Nat.add_le_add_right this 2) (by decide +kernel)) big
/-- the same columns and places: the same rows -/
theorem rows_eq {n N : Nat} {F : Int → Nat → Int} {T T' : Tab} (L : LawT n N F T) (L' : LawT n N F T') (hc : ∀ k, k ∈ T.cols ↔ k ∈ T'.cols) {k : Int} (h1 : k ∈ T.basis) (h2 : k ∈ T'.basis) : nzs T k = nzs T' k ∧ ∀ c ∈ nzs T k, rowF T k c = rowF T' k c := by
  have pc : T.cols.Perm T'.cols := (List.perm_ext_iff_of_nodup L.ok.nc L'.ok.nc).mpr hc
  have es : srt T.cols = srt T'.cols := srt_congr pc
  have ent : ∀ c ∈ T.cols, M.norm (T.E k c) T.unit = M.norm (T'.E k c) T'.unit := fun c hcm => by
    rw [(L.entry (ks := srt T.cols) (srt_perm _) h1 hcm).1, (L'.entry (ks := srt T.cols) ((srt_perm _).trans pc) h2 ((hc c).mp hcm)).1]
  have z : ∀ c ∈ T.cols, (T.E k c = 0 ↔ T'.E k c = 0) := fun c hcm => by
    rw [← L.zero_iff, ← L'.zero_iff, ent c hcm]
  refine ⟨?_, fun c hcm => ent c (srt_mem.mp (List.mem_filter.mp hcm).1)⟩
  unfold nzs
  rw [← es]
  exact List.filter_congr fun c hcm => by
    have := z c (srt_mem.mp hcm)
    simp only [decide_eq_decide]
    exact not_congr this
theorem all_eq {n N : Nat} {F : Int → Nat → Int} {T T' : Tab} (L : LawT n N F T) (L' : LawT n N F T') (hc : ∀ k, k ∈ T.cols ↔ k ∈ T'.cols) (hb : ∀ k, k ∈ T.basis ↔ k ∈ T'.basis) : allDs T = allDs T' := by
  have pb : T.basis.Perm T'.basis := (List.perm_ext_iff_of_nodup L.ok.nb L'.ok.nb).mpr hb
  unfold allDs
  rw [srt_congr pb]
  congr 1
  refine List.map_congr_left fun k hk => ?_
  have h2 := srt_mem.mp hk
  have h1 := (hb k).mpr h2
  obtain ⟨e1, e2⟩ := rows_eq L L' hc h1 h2
  unfold rowDs
  rw [← e1]
  congr 2
  exact List.map_congr_left fun c hcm => by rw [e2 c hcm]
theorem pts_ok : ∀ {n : Nat}, n ≤ 4 → SeqAt.shaped (.tuple (List.replicate n (frD (0, 1)))) = true ∧ PyData.eqv (.tuple (List.replicate n (frD (0, 1)))) (.tuple (List.replicate n (frD (0, 1)))) = true
  | 0, _ | 1, _ | 2, _ | 3, _ | 4, _ => by decide +kernel
  | n + 5, h => absurd h (by omega)
theorem pts_dp {K : PySem.W.Frag} {H : Hp} : ∀ {bs : List Addr}, (∀ b ∈ bs, FrA K H b (0, 1)) → L2.DpAll K H (bs.map V.ref) (List.replicate bs.length (frD (0, 1)))
  | [], _ => .nil
  | b :: bs, h => .cons (frD_dp (h b List.mem_cons_self)) (pts_dp fun c hc => h c (List.mem_cons_of_mem _ hc))
theorem norm_cross {a b : Int} : (M.norm a b).1 * b = a * (M.norm a b).2 := by
  obtain ⟨q, hq⟩ := M.gs_left a b
  obtain ⟨r, hr⟩ := M.gs_right a b
  unfold M.norm
  by_cases hb : b = 0
  · subst hb
    simp
  · have hf := M.gs_ne (a := a) hb
    generalize (Int.gcd a b : Int) * M.sg b = f at *
    subst hq
    subst hr
    rw [Int.mul_ediv_cancel_left _ hf, Int.mul_ediv_cancel_left _ hf]
    grind
/-- what the law's own inverse of an entry is -/
theorem back_norm {e u : Int} (he : e ≠ 0) (hu : 0 < u) : M.norm (M.sg e * u) (e.natAbs : Int) = M.norm (M.norm e u).2 (M.norm e u).1 := by
  have h1 : (M.norm e u).1 ≠ 0 := fun z => he ((M.norm_top_zero (by omega)).mp z)
  refine M.norm_eq (by omega) h1 ?_
  have c := norm_cross (a := e) (b := u)
  have s := M.sg_self e
  rw [← s]
  calc M.sg e * u * (M.norm e u).1 = M.sg e * ((M.norm e u).1 * u) := by grind
    _ = M.sg e * (e * (M.norm e u).2) := by rw [c]
    _ = (M.norm e u).2 * (M.sg e * e) := by grind
theorem pi_tupK {X : Cx} {K : PySem.W.Frag} {tg l : Expr} {tl : TE} (hl : PE X l tl) (hK : X.K = K) : PI X tg l (iTup K tl) := hK ▸ pi_tup hl
abbrev bkS (i : Nat) : Stmt := (defBody s_l_back_right).getD i dS
abbrev bkL : Expr := callA (cmpL (retE ((ifBody (bkS 1)).getD 0 dS)))
abbrev dK0 (K : PySem.W.Frag) (C cR : Addr) : LamD := lamD bkL fun E => tMeth C "exchange" (spExch K C cR) [] E (tVar 1) (tCons (tVar 2) (tCons (tVar 3) tNil))
abbrev bkN : List Str := ["_law_heap_here", "_law_table", "_law_place", "_law_column", "_law_before", "_law_at", "_law_point", "_law_entry_here"]
structure DBk (P : Program) (w : World) (K : PySem.W.Frag) (mg : Str → Option Value) (base : Heap) (C cI cR : Addr) : Prop where
  basis : Dp P w K mg base C "basis" 1 (spKeys K C Tab.basis)
  columns : Dp P w K mg base C "columns" 1 (spKeys K C Tab.cols)
  law_pick : Dn P w K mg base "_law_pick" 2 ["_law_heap_here", "_law_some"] (spPick K)
  law_low : Dn P w K mg base "_law_low" 2 ["_law_top", "_law_bottom"] spFrac
  entry : Dm P w K mg base C "entry" 4 ["self", "place", "column"] (spEntry K C cR)
  row_at : Dm P w K mg base C "row_at" 3 ["self", "place"] (spRowAt K C cR)
  exchange : Dm P w K mg base C "exchange" 5 ["self", "place", "column"] (spExch K C cR)
  point : Dm P w K mg base C "point" 5 ["self"] (spPoint K C)
theorem bk_ok {c : Addr} {A : Around} {outer : List Env} {s : Shared} {H : Hp} {E0 : XK} (D : DBk P w K mg base C cI cR) : ∀ d ∈ [dK0 K C cR], d.Ok (cxOf (L2.CX P w) P w K mg base bkN "_law_back_right" (defScope s_l_back_right) f (.ref c) A outer s H E0) 5 := by
  intro d hd
  rw [List.mem_singleton.mp hd]
  exact ⟨lamS_by (by show lamSB (defScope s_l_back_right) (lamSc bkL) = true; decide +kernel), rfl, fun _ _ _ _ _ => rfl, fun A outer s H E f c' hr => pe_dm (pv 1) D.exchange (hr.mono (by decide)) (passes_call (takes_of rfl rfl rfl rfl) (fun _ _ _ _ z => z)) (pa_cons (pv 2) (pa_cons (pv 3) pa_nil))⟩
abbrev qBk (f c : Addr) : Str := (envOfC "_law_back_right" (defScope s_l_back_right) 0 f (.ref c)).qual ++ "<lambda>"
/-- all but the tables of code objects and fp stays -/
def KeepN (fp : List Addr) (H H' : Hp) : Prop := ∀ b u, H b = some u → b ∉ fp → (∀ ps, u ≠ .tbl ps) → H' b = some u
def spBack (K : PySem.W.Frag) (C : Addr) (T : List (Addr × Str)) : Sp := fun vs H Q _ => ∃ o nn L Tt n N F, vs = [.ref o, .ref L.p] ∧ HeapAt H o nn ∧ TabAt K C H L Tt ∧ LawT n N F Tt ∧ Away o nn L ∧ Tabs T H ∧
  ∀ L' T' H', KeepN ([o, nn] ++ L.fp) H H' → Own H L L' → TabAt K C H' L' T' → LawT n N F T' → HeapAt H' o nn → Tabs T H' → Q (.bl true) H'
theorem ok_l_back_right {c Pt : Addr} {T : List (Addr × Str)} (F0 : FunC K "_law_back_right" "_law_back_right" s_l_back_right f fd c) (tc : TC K C) (Z : Bz mg) (D : DBk P w K mg base C cI cR) (FH : Fun K "_law_heard" "_law_heard" s_l_heard g fg) (hmH : mg "_law_heard" = some (.ref g)) (Tw : Two P w K mg base cI cR)
    (TB : TabB base mg c Pt) (hmT : (Pt, qBk f c) ∈ T) (huT : ∀ p ∈ T, p.1 = Pt → p.2 = qBk f c) : FnG P w K mg base (L2.CX P w) 8 f fd ["_law_heap_here", "_law_table"] (spBack K C T) := by
  refine okGC F0 sc_l_back_right (fun vs H Q E h => ?_) (fun A outer s H vs Q E hr hgd h => ?_)
  · obtain ⟨o, nn, L, Tt, n, N, F, rfl, _⟩ := h
    rfl
  · obtain ⟨o, nn, L, Tt, n, N, F, rfl, hh, t, lt, aw, hT, h⟩ := h
    have nd := sc_l_back_right.nd
    have hu := hu_of hr
    have ok := bk_ok (f := f) (c := c) (A := A) (outer := outer) (s := s) (H := H) (E0 := E) D
    refine ⟨_, (pss_cons (ps_asg (pe_tup (pa_cons (pe_dn D.law_pick (hr.mono (by decide)) rfl passL (pa_cons (pv 0) (pa_cons (pe_dp (pv 1) D.basis (hr.mono (by decide))) pa_nil))) (pa_cons (pe_dn D.law_pick (hr.mono (by decide)) rfl passL (pa_cons (pv 0) (pa_cons (pe_dp (pv 1) D.columns (hr.mono (by decide))) pa_nil))) pa_nil))) (pg_tupK (K := K) (n := 2) rfl (pgs_cons (pg_name (i := 2) nd rfl (Or.inr rfl)) (pgs_cons (pg_name (i := 3) nd rfl (Or.inr rfl)) pgs_nil)) (by rfl)))
      (pss_cons (ps_if (pt_cmpR op_eq (pe_ix (r := rIxT K) ix_tup (pe_dm (pv 1) D.entry (hr.mono (by decide)) passL (pa_cons (pv 2) (pa_cons (pv 3) pa_nil))) pe_int (fun _ _ => rfl)) pe_int (nomark _)) (pss_one (ps_ret (pe_cmpR (op_eqD hr.units) (pe_heard (ls := [dK0 K C cR]) FH hmH Tw ok (hr.mono (by decide)) rfl (pe_lam (d := dK0 K C cR) (ok _ List.mem_cons_self) TB rfl hmT huT)) (pe_tup (pa_cons pe_str (pa_cons pe_str pa_nil))) (nomark _)))) pss_nil)
      (pss_cons (ps_set (i := 4) nd rfl (Or.inl rfl) (pe_callB (r := rRepr K) (call_reprD hgd hr.units) rfl Z.repr_ (by decide +kernel) (pa_cons (pe_lc (own := [("_law_at", 5)]) rfl nd (pi_tupK (K := K) (pe_dp (pv 1) D.basis (hr.mono (by decide))) (by rfl)) (blkOk_by (N := ["_law_heap_here", "_law_table", "_law_place", "_law_column", "_law_before", "_law_at", "_law_point", "_law_entry_here"]) (sc := defScope s_l_back_right) (by decide +kernel)) (fun _ _ _ _ _ => (pg_name (i := 5) nd rfl (Or.inl rfl))) (fun _ _ _ _ _ => pts_nil) (fun _ _ _ _ _ => (pe_callB (r := rSortD K) (cr_sortD hr.units) rfl Z.sorted_ (by decide +kernel) (pa_cons (LiI.pe_listItems rfl (pe_dm (pv 1) D.row_at (hr.mono (by decide)) passL (pa_cons (pv 5) pa_nil)) rfl Z.list_ (by decide +kernel)) pa_nil)))) pa_nil)))
      (pss_cons (ps_par (i := 6) (j := 7) rfl nd rfl rfl (by decide) rfl rfl (pa_cons (pe_dm0 (pv 1) D.point (hr.mono (by decide)) passL) (pa_cons (pe_dm (pv 1) D.entry (hr.mono (by decide)) passL (pa_cons (pv 2) (pa_cons (pv 3) pa_nil))) pa_nil)) (by rfl))
      (pss_cons (ps_expr (pe_dm (pv 1) D.exchange (hr.mono (by decide)) passL (pa_cons (pv 2) (pa_cons (pv 3) pa_nil))))
      (pss_cons (ps_if (pt_cmpR (op_neD hr.units) (pe_dm (pv 1) D.entry (hr.mono (by decide)) passL (pa_cons (pv 3) (pa_cons (pv 2) pa_nil))) (pe_dn D.law_low (hr.mono (by decide)) rfl passL (pa_cons (pe_ix (r := rIxT K) ix_tup (pv 7) pe_int (fun _ _ => rfl)) (pa_cons (pe_ix (r := rIxT K) ix_tup (pv 7) pe_int (fun _ _ => rfl)) pa_nil))) (nomark _)) (pss_one (ps_ret pe_bl)) pss_nil)
      (pss_cons (ps_expr (pe_dm (pv 1) D.exchange (hr.mono (by decide)) passL (pa_cons (pv 3) (pa_cons (pv 2) pa_nil))))
      (pss_one (ps_ret (pe_and (pe_cmpR op_eq (pe_callB (r := rRepr K) (call_reprD hgd hr.units) rfl Z.repr_ (by decide +kernel) (pa_cons (pe_lc (own := [("_law_at", 5)]) rfl nd (pi_tupK (K := K) (pe_dp (pv 1) D.basis (hr.mono (by decide))) (by rfl)) (blkOk_by (N := ["_law_heap_here", "_law_table", "_law_place", "_law_column", "_law_before", "_law_at", "_law_point", "_law_entry_here"]) (sc := defScope s_l_back_right) (by decide +kernel)) (fun _ _ _ _ _ => (pg_name (i := 5) nd rfl (Or.inl rfl))) (fun _ _ _ _ _ => pts_nil) (fun _ _ _ _ _ => (pe_callB (r := rSortD K) (cr_sortD hr.units) rfl Z.sorted_ (by decide +kernel) (pa_cons (LiI.pe_listItems rfl (pe_dm (pv 1) D.row_at (hr.mono (by decide)) passL (pa_cons (pv 5) pa_nil)) rfl Z.list_ (by decide +kernel)) pa_nil)))) pa_nil)) (pv 4) (nomark _)) (pe_one (pe_cmpR (op_eqD hr.units) (pe_dm0 (pv 1) D.point (hr.mono (by decide)) passL) (pv 6) (nomark _))))))))))))), ?_⟩
    obtain ⟨b1, b2, b3, b4⟩ := lt.bpos
    have out1 : ∀ {a : Addr} {G : Hp}, HeapAt G o nn → G a = none → a ≠ o ∧ a ≠ nn := fun hg ha => by
      have := heap_out hg ha
      simp only [List.mem_cons, List.not_mem_nil, or_false, not_or] at this
      exact this
    have d0 : Did K C n N F [o, nn] H L H L Tt := ⟨Keep.refl _ _, Own.refl _ _, t, lt⟩
    refine ⟨_, rfl, _, rfl, _, _, _, rfl, t.ins, L, Tt, rfl, t, fun ba H2 s2 nb hba => ?_⟩
    obtain ⟨q1, q2⟩ := out1 hh nb
    refine ⟨o, nn, ba, srt Tt.basis, rfl, hh.same s2, .inl (SqT.of hba), q1, q2, b1, by omega, fun pl H3 k3 hh3 hpl => ?_⟩
    have d3 := (d0.same s2).draw k3 (hh.same s2) aw
    have T3 := tabs_keep (tabs_same hT s2) k3 (hh.same s2).wr
    refine ⟨_, rfl, _, rfl, _, _, _, rfl, d3.at_.ins, L, Tt, rfl, d3.at_, fun ca H4 s4 nc hca => ?_⟩
    obtain ⟨q3, q4⟩ := out1 hh3 nc
    refine ⟨o, nn, ca, srt Tt.cols, rfl, hh3.same s4, .inl (SqT.of hca), q3, q4, b2, by omega, fun cl H5 k5 hh5 hcl => ⟨(by show 2 ≤ sizeLine; decide), fun tp htp => ⟨tp, _, rfl, SqT.of upd_same, rfl, _, _, rfl, _, _, rfl, rfl, ?_⟩⟩⟩
    have d5 := (d3.same s4).draw k5 (hh3.same s4) aw
    have T5 := tabs_keep (tabs_same T3 s4) k5 (hh3.same s4).wr
    have hpb := srt_mem.mp hpl
    have hcc := srt_mem.mp hcl
    have ok' := lt.ok
    obtain ⟨H6, s6, hH6⟩ : ∃ H6, Same H5 H6 ∧ upd H5 tp (.tup [.int pl, .int cl]) = H6 := ⟨_, same_new htp, rfl⟩
    rw [hH6]
    clear hH6
    have d6 := d5.same s6
    have T6 := tabs_same T5 s6
    have hh6 := hh5.same s6
    refine ⟨_, rfl, L.p, _, _, rfl, d6.at_.ins, rfl, _, rfl, _, rfl, L, Tt, _, "int", _, "int", rfl, d6.at_, ok', .int _, .int _, (fun e => by rw [lt.inb hpb] at e; cases e), (fun _ e => by rw [lt.inc hcc] at e; cases e), fun i' j' e1 e2 _ _ ta hta => ?_⟩
    cases e1
    cases e2
    have s7 := same_new (o := .tup [.int (M.norm (Tt.E pl cl) Tt.unit).1, .int (M.norm (Tt.E pl cl) Tt.unit).2]) hta
    have d7 := d6.same s7
    have T7 := tabs_same T6 s7
    have hh7 := hh6.same s7
    refine ⟨ta, _, _, _, rfl, rfl, SqT.of upd_same, atI_nat (j := 0) rfl, rfl, _, rfl, ?_⟩
    obtain ⟨H7, hH7⟩ : ∃ H7, upd H6 ta (.tup [.int (M.norm (Tt.E pl cl) Tt.unit).1, .int (M.norm (Tt.E pl cl) Tt.unit).2]) = H7 := ⟨_, rfl⟩
    rw [hH7] at d7 T7 hh7 ⊢
    clear hH7
    by_cases e0 : Tt.E pl cl = 0
    · rw [show decide (V.int (M.norm (Tt.E pl cl) Tt.unit).1 = V.int 0) = true from by rw [(lt.zero_iff pl cl).mpr e0]; rfl]
      refine iteT ⟨T7, fun f1 c1 H8 e8 T8 n8 l8 => ⟨dK0 K C cR, List.mem_cons_self, f1, c1, rfl, l8, fun gift => ?_⟩⟩
      have lf := l8.1
      have e9 : ExtN H7 (del H8 f1) := fun b u eb nt => by
        rw [del_ne (ne_of_none eb n8)]
        exact e8 b u eb nt
      have T9 := tabs_del T8 (φ := _) (by unfold LamO at lf; exact lf) gift
      have t9 := d7.at_.extN e9
      refine ⟨_, rfl, L.p, L.dx, _, rfl, t9.ins, rfl, _, rfl, _, rfl, L, Tt, _, "int", _, "int", rfl, t9, ok', .int _, .int _, (fun e => by rw [lt.inb hpb] at e; cases e), (fun _ e => by rw [lt.inc hcc] at e; cases e), fun i' j' e1 e2 _ _ => ?_⟩
      cases e1
      cases e2
      refine ⟨fun _ => err_says fun p H9 s9 np hp => ⟨(by show 2 ≤ sizeLine; decide), fun q hq => ⟨_, _, .tup (SqT.of ((same_new hq) _ _ hp)) (.cons (.str _) (.cons (.str _) .nil)), .tup (SqT.of upd_same) (.cons (.str _) (.cons (.str _) .nil)), shaped_two (by decide +kernel) (by decide +kernel), shaped_two (by decide +kernel) (by decide +kernel), ?_⟩⟩, fun nz => absurd e0 nz⟩
      rw [eqv_two]
      have sf := s9.trans (same_new (o := .tup [.str "refused", .str "zero"]) hq)
      have eF := e9.trans (extN_same sf)
      exact h L Tt _ (fun b u eb nb nt => eF b u (d7.keep b u eb nb) nt) (Own.refl _ _) (t9.same sf) lt (hh7.extN eF) (tabs_same T9 sf)
    · rw [show decide (V.int (M.norm (Tt.E pl cl) Tt.unit).1 = V.int 0) = false from decide_eq_false fun z => e0 ((lt.zero_iff pl cl).mp (V.int.inj z))]
      refine iteF ?_
      have dD : ∀ {rs : List Addr} {G : Hp} {Dd : Addr} {T0 : Tab}, G Dd = some (.lst (rs.map V.ref)) → RowsAtD K G Dd rs ((srt T0.basis).map (rowDs T0)) → L2.Dp K G (.ref Dd) (allDs T0) := fun eD rD => .lst (SqL.of eD) (by
        have := rD.dp
        rw [List.map_map] at this
        exact this)
      dsimp only [tNext]
      refine seq_asg (cb_one ?_)
      refine shown_rows (cR := cR) d7.at_ lt fun D1 rs1 H8 s8 nD1 eD1 rD1 => ?_
      obtain ⟨a1, a2, a3, a4⟩ := lt.all_ok
      refine ⟨D1, allDs Tt, rfl, dD eD1 rD1, a1, a2, by omega, a4, ?_⟩
      have d8 := d7.same s8
      have t8 := d8.at_
      have T8 := tabs_same T7 s8
      have hh8 := hh7.same s8
      have m0 : 0 ≤ Tt.many ∧ Tt.many ≤ Tt.spans.length := by
        rw [lt.many, lt.len]
        have := lt.blen
        omega
      have mv : ∀ k, 0 ≤ k → k < Tt.many → valT Tt k = some (0, 1) := fun k k0 k1 => lt.value k0 (by have := m0.2; rw [lt.len] at this; omega)
      refine ⟨_, rfl, L.p, _, _, rfl, t8.ins, rfl, L, Tt, rfl, t8, ok', m0.1, m0.2, mv, fun pa H9 bs1 s9 e9 l9 f9 => ?_⟩
      have d9 := d8.same s9
      have T9 := tabs_same T8 s9
      have hh9 := hh8.same s9
      refine ⟨_, rfl, L.p, _, _, rfl, d9.at_.ins, rfl, _, rfl, _, rfl, L, Tt, _, "int", _, "int", rfl, d9.at_, ok', .int _, .int _, (fun e => by rw [lt.inb hpb] at e; cases e), (fun _ e => by rw [lt.inc hcc] at e; cases e), fun i' j' e1 e2 _ _ ta2 hta2 => ?_⟩
      cases e1
      cases e2
      obtain ⟨H10, s10, hH10, x10⟩ : ∃ H10, Same H9 H10 ∧ upd H9 ta2 (.tup [.int (M.norm (Tt.E pl cl) Tt.unit).1, .int (M.norm (Tt.E pl cl) Tt.unit).2]) = H10 ∧ H10 ta2 = some (.tup [.int (M.norm (Tt.E pl cl) Tt.unit).1, .int (M.norm (Tt.E pl cl) Tt.unit).2]) := ⟨_, same_new hta2, rfl, upd_same⟩
      rw [hH10]
      clear hH10
      have d10 := d9.same s10
      have T10 := tabs_same T9 s10
      have hh10 := hh9.same s10
      refine ⟨.ref pa, .ref ta2, rfl, _, rfl, L.p, _, _, rfl, d10.at_.ins, rfl, _, rfl, _, rfl, L, Tt, _, "int", _, "int", rfl, d10.at_, ok', .int _, .int _, (fun e => by rw [lt.inb hpb] at e; cases e), (fun _ e => by rw [lt.inc hcc] at e; cases e), fun i' j' e1 e2 _ _ => ?_⟩
      cases e1
      cases e2
      refine ⟨fun z => absurd z e0, fun _ => ⟨(0, 1), (none, none), lt.val hpb, lt.ends hpb, sm01, ⟨True.intro, True.intro⟩, fun L1 H11 k11 g11 t11 => ?_⟩⟩
      have d11 := d10.exch (heap_live hh10) k11 g11 t11 hpb hcc e0
      have hh11 := hh10.keep k11 aw.o1 aw.n1
      have T11 := tabs_keep T10 k11 d10.at_.wr
      have aw1 : Away o nn L1 := aw.own d11.own hh
      clear t11
      obtain ⟨T1, hT1, bT1, cT1, eT1, uT1⟩ : ∃ T1, exT Tt pl cl (0, 1) = T1 ∧ T1.basis = (Tt.basis.filter fun j => decide (j ≠ pl)) ++ [cl] ∧ T1.cols = exCols Tt.cols pl cl ∧ T1.E cl pl = M.sg (Tt.E pl cl) * Tt.unit ∧ T1.unit = ((Tt.E pl cl).natAbs : Int) := ⟨_, rfl, rfl, rfl, (by
        show M.exE Tt.E Tt.unit pl cl cl pl = _
        unfold M.exE M.exQ
        rw [if_pos rfl, if_pos rfl]), rfl⟩
      rw [hT1] at d11
      clear hT1
      have lt1 := d11.law
      have hb1 : cl ∈ T1.basis := by rw [bT1]; simp
      have hc1 : pl ∈ T1.cols := by rw [cT1]; unfold exCols; simp
      have x11 : SqT K H11 ta2 [.int (M.norm (Tt.E pl cl) Tt.unit).1, .int (M.norm (Tt.E pl cl) Tt.unit).2] := keep_tup k11 d10.at_.wr (SqT.of x10)
      have p11 : SqT K H11 pa (bs1.map V.ref) := keep_tup k11 d10.at_.wr (SqT.of (s10 _ _ e9))
      have f11 : ∀ b ∈ bs1, FrA K H11 b (0, 1) := fun b hb => keep_tup k11 d10.at_.wr ((f9 b hb).same s10)
      have ep1 : L.p = L1.p := d11.own.p.symm
      dsimp only [tNext]
      rw [ep1]
      refine ⟨_, rfl, L1.p, _, _, rfl, d11.at_.ins, rfl, _, rfl, _, rfl, L1, T1, _, "int", _, "int", rfl, d11.at_, lt1.ok, .int _, .int _, (fun e => by rw [lt1.inb hb1] at e; cases e), (fun _ e => by rw [lt1.inc hc1] at e; cases e), fun i' j' e1 e2 _ _ tb htb => ?_⟩
      cases e1
      cases e2
      have nE : M.norm (T1.E cl pl) T1.unit = M.norm (M.norm (Tt.E pl cl) Tt.unit).2 (M.norm (Tt.E pl cl) Tt.unit).1 := by
        rw [eT1, uT1]
        exact back_norm e0 lt.ok.pos
      rw [nE]
      obtain ⟨H12, s12, hH12, x12⟩ : ∃ H12, Same H11 H12 ∧ upd H11 tb (.tup [.int (M.norm (M.norm (Tt.E pl cl) Tt.unit).2 (M.norm (Tt.E pl cl) Tt.unit).1).1, .int (M.norm (M.norm (Tt.E pl cl) Tt.unit).2 (M.norm (Tt.E pl cl) Tt.unit).1).2]) = H12 ∧ H12 tb = some (.tup [.int (M.norm (M.norm (Tt.E pl cl) Tt.unit).2 (M.norm (Tt.E pl cl) Tt.unit).1).1, .int (M.norm (M.norm (Tt.E pl cl) Tt.unit).2 (M.norm (Tt.E pl cl) Tt.unit).1).2]) := ⟨_, same_new htb, rfl, upd_same⟩
      rw [hH12]
      clear hH12
      have d12 := d11.same s12
      have T12 := tabs_same T11 s12
      have hh12 := hh11.same s12
      have nz1 : (M.norm (Tt.E pl cl) Tt.unit).1 ≠ 0 := fun z => e0 ((lt.zero_iff pl cl).mp z)
      obtain ⟨sm1, sm2⟩ : Sm (M.norm (Tt.E pl cl) Tt.unit) := sm_norm (ok'.eb pl hpb cl hcc) ok'.ub
      refine ⟨_, rfl, ta2, _, _, _, rfl, rfl, same_tup s12 x11, atI_nat (j := 1) rfl, _, rfl, ta2, _, _, _, rfl, rfl, same_tup s12 x11, atI_nat (j := 0) rfl, _, _, rfl, nz1, Nat.lt_of_lt_of_le sm1 (Nat.pow_le_pow_right (by decide) (by decide)), fun tc htc => ?_⟩
      obtain ⟨H13, s13, hH13, x13⟩ : ∃ H13, Same H12 H13 ∧ upd H12 tc (.tup [.int (M.norm (M.norm (Tt.E pl cl) Tt.unit).2 (M.norm (Tt.E pl cl) Tt.unit).1).1, .int (M.norm (M.norm (Tt.E pl cl) Tt.unit).2 (M.norm (Tt.E pl cl) Tt.unit).1).2]) = H13 ∧ H13 tc = some (.tup [.int (M.norm (M.norm (Tt.E pl cl) Tt.unit).2 (M.norm (Tt.E pl cl) Tt.unit).1).1, .int (M.norm (M.norm (Tt.E pl cl) Tt.unit).2 (M.norm (Tt.E pl cl) Tt.unit).1).2]) := ⟨_, same_new htc, rfl, upd_same⟩
      rw [hH13]
      clear hH13
      have d13 := d12.same s13
      have T13 := tabs_same T12 s13
      have hh13 := hh12.same s13
      refine ⟨_, _, frD_dp (SqT.of (s13 _ _ x12)), frD_dp (SqT.of x13), frD_shaped _, frD_shaped _, ?_⟩
      rw [frD_eqv]
      refine ⟨_, rfl, ?_⟩
      show (if (!true) = true then _ else _)
      rw [if_neg (by decide)]
      dsimp only [tNext]
      refine ⟨_, rfl, L1.p, _, _, rfl, d13.at_.ins, rfl, _, rfl, _, rfl, L1, T1, _, "int", _, "int", rfl, d13.at_, lt1.ok, .int _, .int _, (fun e => by rw [lt1.inb hb1] at e; cases e), (fun _ e => by rw [lt1.inc hc1] at e; cases e), fun i' j' e1 e2 _ _ => ?_⟩
      cases e1
      cases e2
      have nz2 : T1.E cl pl ≠ 0 := by
        rw [eT1]
        intro z
        rcases Int.mul_eq_zero.mp z with z | z
        · rcases M.sg_cases (Tt.E pl cl) with y | y <;> rw [y] at z <;> exact absurd z (by decide)
        · have := lt.ok.pos
          omega
      refine ⟨fun z => absurd z nz2, fun _ => ⟨(0, 1), (none, none), lt1.val hb1, lt1.ends hb1, sm01, ⟨True.intro, True.intro⟩, fun L2 H14 k14 g14 t14 => ?_⟩⟩
      have d14 := d13.exch (heap_live hh13) k14 g14 t14 hb1 hc1 nz2
      have hh14 := hh13.keep k14 aw1.o1 aw1.n1
      have T14 := tabs_keep T13 k14 d13.at_.wr
      have p14 : SqT K H14 pa (bs1.map V.ref) := keep_tup k14 d13.at_.wr (same_tup s13 (same_tup s12 p11))
      have f14 : ∀ b ∈ bs1, FrA K H14 b (0, 1) := fun b hb => keep_tup k14 d13.at_.wr (same_tup s13 (same_tup s12 (f11 b hb)))
      clear t14
      obtain ⟨T2, hT2, bT2, cT2⟩ : ∃ T2, exT T1 cl pl (0, 1) = T2 ∧ (∀ k, k ∈ Tt.basis ↔ k ∈ T2.basis) ∧ (∀ k, k ∈ Tt.cols ↔ k ∈ T2.cols) := ⟨_, rfl, fun k => (by
        show _ ↔ k ∈ (T1.basis.filter fun j => decide (j ≠ cl)) ++ [pl]
        rw [bT1]
        simp only [List.mem_append, List.mem_filter, List.mem_singleton, decide_eq_true_eq]
        by_cases kp : k = pl
        · subst kp; simp [hpb]
        · have : k ∈ Tt.basis → k ≠ cl := fun hk hkc => ok'.dj k hk (hkc ▸ hcc)
          simp only [kp, not_false_eq_true, and_true, or_false]
          exact ⟨fun h => ⟨.inl ⟨h, kp⟩, this h⟩, fun h => h.1.elim (fun z => z.1) fun z => absurd z h.2⟩), fun k => (by
        show _ ↔ k ∈ exCols T1.cols cl pl
        rw [cT1]
        unfold exCols
        simp only [List.mem_append, List.mem_filter, List.mem_singleton, decide_eq_true_eq]
        by_cases kp : k = cl
        · subst kp; simp [hcc]
        · have : k ∈ Tt.cols → k ≠ pl := fun hk hkc => ok'.dj pl hpb (hkc ▸ hk)
          simp only [kp, not_false_eq_true, and_true, or_false]
          exact ⟨fun h => ⟨.inl ⟨h, kp⟩, this h⟩, fun h => h.1.elim (fun z => z.1) fun z => absurd z h.2⟩)⟩
      rw [hT2] at d14
      clear hT2
      have lt2 := d14.law
      have aw2 : Away o nn L2 := aw.own d14.own hh
      have ep2 : L1.p = L2.p := ep1.symm.trans d14.own.p.symm
      rw [ep2]
      dsimp only []
      refine cb_and ?_
      refine shown_rows (cR := cR) d14.at_ lt2 fun D2 rs2 H15 s15 nD2 eD2 rD2 => ?_
      obtain ⟨v1, v2, v3, v4⟩ := lt2.all_ok
      refine ⟨D2, allDs T2, rfl, dD eD2 rD2, v1, v2, by omega, v4, ?_⟩
      have d15 := d14.same s15
      have T15 := tabs_same T14 s15
      have hh15 := hh14.same s15
      rw [all_eq lt2 lt (fun k => (cT2 k).symm) (fun k => (bT2 k).symm)]
      refine ⟨_, rfl, rfl, true, by rw [decide_eq_true rfl], ?_⟩
      rw [if_pos rfl]
      have n0 : 0 ≤ T2.many ∧ T2.many ≤ T2.spans.length := by
        rw [lt2.many, lt2.len]
        have := lt2.blen
        omega
      have mv2 : ∀ k, 0 ≤ k → k < T2.many → valT T2 k = some (0, 1) := fun k k0 k1 => lt2.value k0 (by have := n0.2; rw [lt2.len] at this; omega)
      refine ⟨_, rfl, L2.p, _, _, rfl, d15.at_.ins, rfl, L2, T2, rfl, d15.at_, lt2.ok, n0.1, n0.2, mv2, fun pb H16 bs2 s16 e16 l16 f16 => ⟨_, rfl, ?_⟩⟩
      have l1 : bs1.length = n := by rw [l9, lt.many]; rfl
      have l2 : bs2.length = n := by rw [l16, lt2.many]; rfl
      obtain ⟨z1, z2⟩ := pts_ok lt.n4
      have sf := s15.trans s16
      have dA := pts_dp (K := K) (H := H16) (bs := bs2) f16
      have dB := pts_dp (K := K) (H := H16) (bs := bs1) fun b hb => (f14 b hb).same sf
      rw [l2] at dA
      rw [l1] at dB
      refine ⟨_, _, .tup (SqT.of e16) dA, .tup (same_tup sf p14) dB, z1, z1, ?_⟩
      rw [z2]
      have dF := d15.same s16
      refine h L2 T2 H16 (fun b u eb nb _ => dF.keep b u eb nb) ?_ dF.at_ lt2 (hh15.same s16) (tabs_same T15 s16)
      exact dF.own
end
end K24
/-! K24A: the tables of the law's worlds at their start. -/
namespace K24
open PySem PySem.Spec PyProof.Rows L2
/-- the forms: unit rows, then the rows given -/
def formF (n : Nat) (rs : List Row) (k : Int) (c : Nat) : Int := if k < (n : Int) then (if k = (c : Int) then 1 else 0) else ((rs.getD (k - n).toNat ([], false, 0)).1).getD c 0
def unitF (k : Int) (c : Nat) : Int := if k = (c : Int) then 1 else 0
theorem det_unit : ∀ {n : Nat}, 1 ≤ n → n ≤ 4 → M.D (List.range n) ((idx n).map unitF) = 1
  | 1, _, _ | 2, _, _ | 3, _, _ | 4, _, _ => by decide +kernel
  | n + 5, _, h => absurd h (by omega)
theorem idx_succ (n : Nat) : idx (n + 1) = idx n ++ [(n : Int)] := by
  unfold idx
  rw [List.range_succ, List.map_append]
  rfl
theorem sm_unit (g : Int → Int) (j : Nat) : ∀ n : Nat, M.sm (idx n) (fun c => g c * unitF c j) = if j < n then g j else 0
  | 0 => rfl
  | n + 1 => by
    rw [idx_succ, M.sm_append, sm_unit g j n]
    show _ + (g (n : Int) * unitF n j + 0) = _
    unfold unitF
    by_cases e : n = j
    · subst e
      rw [if_neg (by omega), if_pos rfl, if_pos (by omega)]
      omega
    · rw [if_neg (show ¬ ((n : Int) = (j : Int)) by omega)]
      by_cases l : j < n
      · rw [if_pos l, if_pos (by omega)]
        omega
      · rw [if_neg l, if_neg (by omega)]
        omega
/-- what a table is at its start, its ends aside -/
structure Start (n : Nat) (rs : List Row) (T : Tab) : Prop where
  many : T.many = (n : Int)
  cols : T.cols = idx n
  basis : T.basis = (List.range rs.length).map fun i : Nat => ((n + i : Nat) : Int)
  unit : T.unit = 1
  len : T.spans.length = n + rs.length
  E : ∀ (i : Nat) (r : Row), rs[i]? = some r → ∀ c : Int, T.E ((n + i : Nat) : Int) c = r.1.getD c.toNat 0
  ok : T.Ok
theorem start_base {bs : List (Int × Int)} (h : bs.length ≤ 20) : Start bs.length [] (baseT bs) :=
  ⟨rfl, rfl, rfl, rfl, by show (bs.map boxEnds).length = _; rw [List.length_map]; rfl, fun i r e => by simp at e, baseT_ok h⟩
theorem start_add {n : Nat} {rs : List Row} {r : Row} {T : Tab} (s : Start n rs T) (hr : ∀ x ∈ r.1, x.natAbs < 2 ^ 700) (few : n + rs.length < 20) : Start n (rs ++ [r]) (addT T r.1 r.2.1 r.2.2) where
  many := s.many
  cols := s.cols
  basis := by
    show T.basis ++ [(T.spans.length : Int)] = _
    rw [s.basis, s.len, List.length_append, List.length_singleton, List.range_succ, List.map_append]
    rfl
  unit := s.unit
  len := by
    show (T.spans ++ [_]).length = _
    rw [List.length_append, s.len, List.length_append]
    rfl
  E := fun i x hx c => by
    show (if ((n + i : Nat) : Int) = (T.spans.length : Int) then (fun c : Int => r.1.getD c.toNat 0 * T.unit) else T.E ((n + i : Nat) : Int)) c = _
    rw [s.len]
    by_cases e : i = rs.length
    · subst e
      rw [List.getElem?_append_right (by omega), Nat.sub_self] at hx
      obtain rfl : r = x := by simpa using hx
      rw [if_pos rfl, s.unit, Int.mul_one]
    · have il : i < rs.length := by
        have := (List.getElem?_eq_some_iff.mp hx).1
        rw [List.length_append, List.length_singleton] at this
        omega
      rw [if_neg (by omega)]
      rw [List.getElem?_append_left il] at hx
      exact s.E i x hx c
  ok := addT_ok s.ok s.unit hr (by rw [s.len]; omega)
theorem start_rows {bs : List (Int × Int)} {r0 : List Row} (hb : bs.length + r0.length ≤ 20) (hr : ∀ r ∈ r0, ∀ x ∈ r.1, x.natAbs < 2 ^ 700) : Start bs.length r0 (initT bs r0) := by
  suffices h : ∀ (m : Nat) (rs : List Row), rs.length = m → (∀ r ∈ rs, ∀ x ∈ r.1, x.natAbs < 2 ^ 700) → bs.length + rs.length ≤ 20 → Start bs.length rs (initT bs rs) from h _ r0 rfl hr hb
  intro m
  induction m with
  | zero =>
    intro rs e _ hl
    rw [List.length_eq_zero_iff.mp e] at hl ⊢
    exact start_base hl
  | succ m ih =>
    intro rs e hr hl
    obtain ⟨r0, r, rfl⟩ : ∃ r0 r, rs = r0 ++ [r] := ⟨rs.dropLast, rs.getLast (by intro z; rw [z] at e; cases e), (List.dropLast_concat_getLast _).symm⟩
    rw [List.length_append, List.length_singleton] at e hl
    have s := ih r0 (by omega) (fun x hx => hr x (List.mem_append_left _ hx)) (by omega)
    unfold initT
    rw [rowsT_snoc]
    exact start_add s (hr r (by simp)) (by omega)
/-- alike but for ends, held values and log -/
structure Kin (T0 T : Tab) : Prop where
  many : T.many = T0.many
  cols : T.cols = T0.cols
  basis : T.basis = T0.basis
  unit : T.unit = T0.unit
  E : T.E = T0.E
  len : T.spans.length = T0.spans.length
theorem Kin.refl (T : Tab) : Kin T T := ⟨rfl, rfl, rfl, rfl, rfl, rfl⟩
theorem Kin.give {T0 T : Tab} (k : Kin T0 T) (p : Int) (e : Ends2) (lg : Nat) : Kin T0 (giveT T p e lg) := ⟨k.many, k.cols, k.basis, k.unit, k.E, by
  show (T.spans.set _ _).length = _
  rw [List.length_set]
  exact k.len⟩
theorem Start.kin {n : Nat} {rs : List Row} {T T' : Tab} (s : Start n rs T) (k : Kin T T') : Start n rs T' :=
  ⟨k.many.trans s.many, k.cols.trans s.cols, k.basis.trans s.basis, k.unit.trans s.unit, k.len.trans s.len, fun i r e c => by rw [k.E]; exact s.E i r e c,
    ⟨k.cols ▸ s.ok.nc, k.basis ▸ s.ok.nb, by rw [k.basis, k.cols]; exact s.ok.dj, by rw [k.unit]; exact s.ok.pos, by rw [k.cols, k.basis, k.len]; exact s.ok.mem, by rw [k.len]; exact s.ok.few, by rw [k.basis, k.cols, k.E]; exact s.ok.eb, by rw [k.unit]; exact s.ok.ub⟩⟩
theorem Start.law {n : Nat} {rs : List Row} {T : Tab} (s : Start n rs T) (n1 : 1 ≤ n) (n4 : n ≤ 4) (N8 : n + rs.length ≤ 8) (ne : rs ≠ []) (hr : ∀ r ∈ rs, r.1.length = n ∧ ∀ x ∈ r.1, x.natAbs ≤ 1000000)
    (hv : ∀ c ∈ T.cols, T.hv c = (0, 1)) (free : ∀ i : Nat, i < n + rs.length → T.spans[i]? = some (none, none)) : LawT n (n + rs.length) (formF n rs) T where
  ok := s.ok
  len := s.len
  cl := by rw [s.cols, idx_length]
  n4 := n4
  n1 := n1
  bn := fun z => by
    rw [s.basis] at z
    have := congrArg List.length z
    rw [List.length_map, List.length_range] at this
    exact ne (List.length_eq_zero_iff.mp this)
  N8 := N8
  many := s.many
  sys := by
    rw [s.unit, s.cols]
    have fu : ∀ k ∈ idx n, formF n rs k = unitF k := fun k hk => by
      funext c
      have := idx_mem.mp hk
      unfold formF unitF
      rw [if_pos (by omega)]
    refine ⟨idx_nodup n, by decide, fun p hp hc => s.ok.dj p hp (s.cols ▸ hc), ⟨1, .inl rfl, ?_⟩, fun p hp j => ?_⟩
    · rw [List.map_congr_left fu, det_unit n1 n4]
      rfl
    · rw [s.basis] at hp
      obtain ⟨i, hi, rfl⟩ := List.mem_map.mp hp
      have il := List.mem_range.mp hi
      obtain ⟨r, er⟩ : ∃ r, rs[i]? = some r := ⟨_, List.getElem?_eq_getElem il⟩
      rw [M.sm_congr (g := fun c => r.1.getD c.toNat 0 * unitF c j) (fun c hc => by rw [s.E i r er c, fu c hc]), sm_unit (fun c => r.1.getD c.toNat 0) j n]
      have ef : formF n rs ((n + i : Nat) : Int) j = r.1.getD j 0 := by
        unfold formF
        rw [if_neg (by omega), show (((n + i : Nat) : Int) - n).toNat = i by omega, show rs.getD i ([], false, 0) = r by rw [List.getD_eq_getElem?_getD, er]; rfl]
      rw [ef, Int.one_mul]
      by_cases jl : j < n
      · rw [if_pos jl]
        rfl
      · rw [if_neg jl, List.getD_eq_getElem?_getD, List.getElem?_eq_none (by rw [(hr r (List.mem_of_getElem? er)).1]; omega)]
        rfl
  zero := hv
  free := free
  bd := fun k k0 k1 c hc => by
    unfold formF
    split
    · split <;> decide
    · rw [List.getD_eq_getElem?_getD]
      cases e : ((rs.getD (k - n).toNat ([], false, 0)).1)[c]? with
      | none => exact (by decide : (0 : Int).natAbs ≤ 1000000)
      | some x =>
        have il : (k - n).toNat < rs.length := by omega
        rw [List.getD_eq_getElem?_getD, List.getElem?_eq_getElem il] at e
        exact (hr _ (List.getElem_mem il)).2 x (List.mem_of_getElem? e)
end K24
/-! K24E: two tables, the heap and the forms side by side. -/
namespace K24
open PySem PySem.Spec PyProof.Rows L2 LamX
section
variable {K : PySem.W.Frag} {C : Addr} {H H' : Hp} {L : Lay} {T : Tab}
theorem KeepN.of {fp : List Addr} (k : Keep fp H H') : KeepN fp H H' := fun b u e n _ => k b u e n
theorem KeepN.mid {fp : List Addr} (k : KeepN fp H H') : ∃ H1, Keep fp H H1 ∧ ExtN H1 H' := by
  classical
  refine ⟨fun b => if (∃ ps, H b = some (.tbl ps)) then H b else H' b, fun b u e n => ?_, fun b u e n => ?_⟩
  · by_cases z : ∃ ps, H b = some (.tbl ps)
    · show (if _ then _ else _) = _
      rw [if_pos z]
      exact e
    · show (if _ then _ else _) = _
      rw [if_neg z]
      exact k b u e n fun ps h => z ⟨ps, by rw [e, h]⟩
  · by_cases z : ∃ ps, H b = some (.tbl ps)
    · obtain ⟨ps, z'⟩ := z
      have e : (if (∃ ps, H b = some (.tbl ps)) then H b else H' b) = some u := e
      rw [if_pos ⟨ps, z'⟩, z'] at e
      exact absurd (Option.some.inj e).symm (n ps)
    · have e : (if (∃ ps, H b = some (.tbl ps)) then H b else H' b) = some u := e
      rw [if_neg z] at e
      exact e
theorem keepN_tup {fp : List Addr} {a : Addr} {xs : List V} (k : KeepN fp H H') (w : ∀ b ∈ fp, Wr H b) (h : SqT K H a xs) : SqT K H' a xs := by
  obtain ⟨H1, k1, e1⟩ := k.mid
  exact extN_tup e1 (keep_tup k1 w h)
theorem TabAt.keepN {fp : List Addr} (h : TabAt K C H L T) (k : KeepN fp H H') (w : ∀ b ∈ fp, Wr H b) (n : ∀ b ∈ fp, b ∉ L.fp ∧ ¬ L.rows b) : TabAt K C H' L T := by
  obtain ⟨H1, k1, e1⟩ := k.mid
  exact (h.keep k1 w n).extN e1
/-- only the rows that live -/
def Lay.live (L : Lay) (H : Hp) : Lay := { L with rows := fun b => L.rows b ∧ ∃ kvs, H b = some (.dK kvs) }
theorem TabAt.tight (h : TabAt K C H L T) : TabAt K C H (L.live H) T := by
  obtain ⟨kt, g, p⟩ := h.table
  refine ⟨h.ins, h.spans, h.held, ⟨kt, g, p.imp fun v x hh => ?_⟩, h.hist, h.n1, h.n2, fun z => h.n3 z.1, fun z => h.n4 z.1⟩
  obtain ⟨a, e, r, k⟩ := hh
  exact ⟨a, e, ⟨r, _, k⟩, k⟩
/-- all of it side by side -/
structure Duo (K : PySem.W.Frag) (C : Addr) (n N : Nat) (F : Int → Nat → Int) (H0 H : Hp) (o nn fo : Addr) (as : List Addr) (S : List (Addr × Str)) (La : Lay) (Ta : Tab) (Lb : Lay) (Tb : Tab) : Prop where
  ta : TabAt K C H La Ta
  tb : TabAt K C H Lb Tb
  hh : HeapAt H o nn
  wa : Away o nn La
  wb : Away o nn Lb
  ab : ∀ b ∈ La.fp, b ∉ Lb.fp ∧ ¬ Lb.rows b
  ba : ∀ b ∈ Lb.fp, b ∉ La.fp ∧ ¬ La.rows b
  va : ∀ b, La.rows b → ∃ kvs, H b = some (.dK kvs)
  vb : ∀ b, Lb.rows b → ∃ kvs, H b = some (.dK kvs)
  fe : H fo = some (.lst (as.map V.ref))
  fl : as.length = N
  fr : ∀ (i : Nat) (a : Addr), as[i]? = some a → H a = some (.lst (lineV (List.range n) (F i)))
  out : ∀ b, b = fo ∨ b ∈ as → b ≠ o ∧ b ≠ nn ∧ b ∉ La.fp ∧ b ∉ Lb.fp
  far : KeepN [o, nn] H0 H
  na : ∀ b ∈ La.fp, NewN H0 b
  nb : ∀ b ∈ Lb.fp, NewN H0 b
  tabs : Tabs S H
variable {n N : Nat} {F : Int → Nat → Int} {H0 : Hp} {o nn fo : Addr} {as : List Addr} {S : List (Addr × Str)} {La Lb : Lay} {Ta Tb : Tab}
theorem Duo.swap (d : Duo K C n N F H0 H o nn fo as S La Ta Lb Tb) : Duo K C n N F H0 H o nn fo as S Lb Tb La Ta :=
  ⟨d.tb, d.ta, d.hh, d.wb, d.wa, d.ba, d.ab, d.vb, d.va, d.fe, d.fl, d.fr, fun b hb => ⟨(d.out b hb).1, (d.out b hb).2.1, (d.out b hb).2.2.2, (d.out b hb).2.2.1⟩, d.far, d.nb, d.na, d.tabs⟩
theorem Duo.forms (d : Duo K C n N F H0 H o nn fo as S La Ta Lb Tb) : FormsAt K H fo n N F := ⟨as, SqL.of d.fe, d.fl, fun i a e => SqL.of (d.fr i a e)⟩
theorem Duo.live (d : Duo K C n N F H0 H o nn fo as S La Ta Lb Tb) : ∀ b, b = fo ∨ b ∈ as → ∃ xs, H b = some (.lst xs) := fun b hb => by
  rcases hb with rfl | hb
  · exact ⟨_, d.fe⟩
  · obtain ⟨i, hi, e⟩ := List.mem_iff_getElem.mp hb
    exact ⟨_, d.fr i b (by rw [List.getElem?_eq_getElem hi, e])⟩
theorem KeepN.app {fp fp' : List Addr} {H1 : Hp} (k : KeepN fp H H1) (h : ∀ b, b ∈ fp → b ∈ fp') : KeepN fp' H H1 := fun b u e n t => k b u e (fun z => n (h b z)) t
theorem Duo.stepX {La' : Lay} {Ta' : Tab} (d : Duo K C n N F H0 H o nn fo as S La Ta Lb Tb) (k : KeepN ([o, nn] ++ La.fp) H H') (w : Own H La La') (t : TabAt K C H' La' Ta') (hh : HeapAt H' o nn) (ts : Tabs S H') : Duo K C n N F H0 H' o nn fo as S (La'.live H') Ta' Lb Tb := by
  have wo : ∀ b ∈ [o, nn] ++ La.fp, Wr H b := fun b hb => (List.mem_append.mp hb).elim (d.hh.wr b) (d.ta.wr b)
  have wl : ∀ {b : Addr}, Wr H b → H b ≠ none := fun {b} h z => by
    rcases h with ⟨_, _, _, e⟩ | ⟨_, e⟩ | ⟨_, e⟩ <;> rw [z] at e <;> cases e
  have nB : ∀ b ∈ [o, nn] ++ La.fp, b ∉ Lb.fp ∧ ¬ Lb.rows b := fun b hb => by
    rcases List.mem_append.mp hb with h | h
    · rcases List.mem_cons.mp h with rfl | h
      · exact ⟨d.wb.o1, d.wb.o2⟩
      · rw [List.mem_singleton.mp h]
        exact ⟨d.wb.n1, d.wb.n2⟩
    · exact d.ab b h
  have fpw : ∀ b ∈ La'.fp, b ∈ La.fp ∨ H b = none := w.fp
  have kl : ∀ {b : Addr} {xs : List V}, H b = some (.lst xs) → b ≠ o → b ≠ nn → b ∉ La.fp → H' b = some (.lst xs) := fun {b xs} e h1 h2 h3 => k b _ e (fun z => by
    rcases List.mem_append.mp z with z | z
    · rcases List.mem_cons.mp z with z | z
      · exact h1 z
      · exact h2 (List.mem_singleton.mp z)
    · exact h3 z) (fun _ z => nomatch z)
  refine ⟨t.tight, d.tb.keepN k wo nB, hh, ?_, d.wb, ?_, ?_, fun b h => h.2, ?_, ?_, d.fl, ?_, ?_, ?_, ?_, d.nb, ts⟩
  · have a := d.wa.own w d.hh
    exact ⟨a.o1, a.n1, fun z => a.o2 z.1, fun z => a.n2 z.1⟩
  · intro b hb
    rcases fpw b hb with h | h
    · exact d.ab b h
    · exact ⟨fun z => wl (d.tb.wr b z) h, fun z => by
        obtain ⟨_, e⟩ := d.vb b z
        rw [h] at e
        cases e⟩
  · intro b hb
    refine ⟨fun z => ?_, fun z => ?_⟩
    · rcases fpw b z with h | h
      · exact (d.ba b hb).1 h
      · exact wl (d.tb.wr b hb) h
    · rcases w.rows b z.1 with h | h | h
      · exact (d.ba b hb).2 h
      · exact (d.ba b hb).1 h
      · exact wl (d.tb.wr b hb) h
  · intro b hb
    obtain ⟨kvs, e⟩ := d.vb b hb
    exact ⟨kvs, k b _ e (fun z => (nB b z).2 hb) (fun _ z => nomatch z)⟩
  · obtain ⟨q1, q2, q3, _⟩ := d.out fo (.inl rfl)
    exact kl d.fe q1 q2 q3
  · intro i a e
    obtain ⟨q1, q2, q3, _⟩ := d.out a (.inr (List.mem_of_getElem? e))
    exact kl (d.fr i a e) q1 q2 q3
  · intro b hb
    obtain ⟨q1, q2, q3, q4⟩ := d.out b hb
    refine ⟨q1, q2, fun z => ?_, q4⟩
    rcases fpw b z with h | h
    · exact q3 h
    · obtain ⟨xs, e⟩ := d.live b hb
      rw [h] at e
      cases e
  · intro b u e nb nt
    refine k b u (d.far b u e nb nt) (fun z => ?_) nt
    rcases List.mem_append.mp z with z | z
    · exact nb z
    · obtain ⟨ps, q⟩ := d.na b z u e
      exact nt ps q
  · intro b hb u e
    rcases fpw b hb with h | h
    · exact d.na b h u e
    · by_cases z : ∃ ps, u = .tbl ps
      · exact z
      · by_cases m : b ∈ [o, nn]
        · exact absurd h (wl (d.hh.wr b m))
        · rw [d.far b u e m fun ps q => z ⟨ps, q⟩] at h
          cases h
theorem Duo.step {La' : Lay} {Ta' : Tab} (d : Duo K C n N F H0 H o nn fo as S La Ta Lb Tb) (k : KeepN ([o, nn] ++ La.fp) H H') (w : Own H La La') (t : TabAt K C H' La' Ta') (hh : HeapAt H' o nn) (ts : Tabs S H') : ∃ L2, L2.p = La'.p ∧ L2.p = La.p ∧ Duo K C n N F H0 H' o nn fo as S L2 Ta' Lb Tb :=
  ⟨La'.live H', rfl, w.p, d.stepX k w t hh ts⟩
theorem Duo.same (d : Duo K C n N F H0 H o nn fo as S La Ta Lb Tb) (s : Same H H') : Duo K C n N F H0 H' o nn fo as S La Ta Lb Tb :=
  ⟨d.ta.same s, d.tb.same s, d.hh.same s, d.wa, d.wb, d.ab, d.ba, fun b h => (d.va b h).imp fun _ e => s _ _ e, fun b h => (d.vb b h).imp fun _ e => s _ _ e, s _ _ d.fe, d.fl, fun i a e => s _ _ (d.fr i a e), d.out, fun b u e nb nt => s _ _ (d.far b u e nb nt), d.na, d.nb, tabs_same d.tabs s⟩
/-- a step of the first table that keeps its layout -/
theorem Duo.stepK {Ta' : Tab} (d : Duo K C n N F H0 H o nn fo as S La Ta Lb Tb) (k : Keep La.fp H H') (t : TabAt K C H' La Ta') : ∃ L2, L2.p = La.p ∧ Duo K C n N F H0 H' o nn fo as S L2 Ta' Lb Tb := by
  obtain ⟨L2, _, e, d2⟩ := d.step ((KeepN.of k).app fun b h => List.mem_append_right _ h) (Own.refl _ _) t (d.hh.keep k d.wa.o1 d.wa.n1) (tabs_keep d.tabs k d.ta.wr)
  exact ⟨L2, e, d2⟩
theorem Duo.stepL {Ta' : Tab} (d : Duo K C n N F H0 H o nn fo as S La Ta Lb Tb) (k : Keep La.fp H H') (t : TabAt K C H' La Ta') : Duo K C n N F H0 H' o nn fo as S (La.live H') Ta' Lb Tb :=
  d.stepX ((KeepN.of k).app fun b h => List.mem_append_right _ h) (Own.refl _ _) t (d.hh.keep k d.wa.o1 d.wa.n1) (tabs_keep d.tabs k d.ta.wr)
theorem Duo.stepG {La' : Lay} {Ta' : Tab} (d : Duo K C n N F H0 H o nn fo as S La Ta Lb Tb) (k : Keep La.fp H H') (g : Grow H La La') (t : TabAt K C H' La' Ta') : ∃ L2, L2.p = La.p ∧ Duo K C n N F H0 H' o nn fo as S L2 Ta' Lb Tb := by
  obtain ⟨L2, _, e, d2⟩ := d.step ((KeepN.of k).app fun b h => List.mem_append_right _ h) ((Own.refl _ _).step g fun b h => .inl h) t (d.hh.keep k d.wa.o1 d.wa.n1) (tabs_keep d.tabs k d.ta.wr)
  exact ⟨L2, e, d2⟩
/-- a wander, or a table led -/
theorem Duo.stepD {La' : Lay} {Ta' : Tab} {more : List Addr} (d : Duo K C n N F H0 H o nn fo as S La Ta Lb Tb) (k : Did K C n N F more H La H' La' Ta') (hm : ∀ b ∈ more, b ∈ [o, nn]) (hh : HeapAt H' o nn) : ∃ L2, L2.p = La.p ∧ Duo K C n N F H0 H' o nn fo as S L2 Ta' Lb Tb ∧ LawT n N F Ta' := by
  have k2 : Keep ([o, nn] ++ La.fp) H H' := fun b u e nb => k.keep b u e fun z => nb ((List.mem_append.mp z).elim (fun z => List.mem_append_left _ (hm b z)) fun z => List.mem_append_right _ z)
  obtain ⟨L2, _, e, d2⟩ := d.step (KeepN.of k2) k.own k.at_ hh (tabs_keep d.tabs k2 fun b hb => (List.mem_append.mp hb).elim (d.hh.wr b) (d.ta.wr b))
  exact ⟨L2, e, d2, k.law⟩
end
end K24
/-! K24TM: t * 1 is t itself. -/
namespace K24
open PySem PySem.Spec PyProof.Rows L2
theorem once_mul (l : Addr) (xs : Array Value) (m : Nat) (y : Option Addr) (z : Array (Option Value)) (u : Tok) :
    Meets (Builtin.«tuple.__mul__» ⟨[.ref l, .int 1 u], []⟩) (fun _ R s => s.heap.get? l = some ⟨.type "tuple", y, .seq xs m, z⟩ ∧ R (.ok (.ret (.ref l))) s) :=
  .of_wp fun prog w A R s hh => by
    obtain ⟨a1, a2, a3, a4, a5⟩ := s
    obtain ⟨hl, h⟩ := hh
    have ix := AutoSeq1.idx_int
    have nb : (decide ((1 : Int) < -(2 ^ 63)) || decide ((1 : Int) ≥ 2 ^ 63)) = false := by decide
    have one : (xs.isEmpty || (1 : Int) == 1) = true := by rw [Bool.or_eq_true]; exact .inr rfl
    wp_walk using wpAny_loadPart' hl
    exact ⟨_, rfl, h⟩
def rRepA (K : PySem.W.Frag) : R2 := fun x y H Q => ∃ l k xs, x = .ref l ∧ y = .int k ∧ SqT K H l xs ∧ xs ≠ [] ∧ 1 ≤ k ∧ k ≤ 1000 ∧ xs.length ≤ 1000 ∧ (k = 1 → Q (.ref l) H) ∧ (2 ≤ k → ∀ p, H p = none → Q (.ref p) (upd H p (.tup (List.replicate k.toNat xs).flatten)))
theorem op_repA {X : Cx} : OpR X (binaryOp .Mult) (rRepA X.K) := by
  intro pins s σ H x y v u Q I rx ry h
  obtain ⟨l, k, xs, rfl, rfl, hT, hne, h1, h2, hz, q1, q2⟩ := h
  by_cases e : k = 1
  · subst e
    cases rx
    obtain ⟨t, rfl⟩ := ry
    obtain ⟨its, r, ⟨⟨c0, y0, d0, z0⟩, ho, hc, m, hd⟩, hs⟩ := I.tuple hT
    simp only at hc hd
    subst hc hd
    have isT : s.TypeIs (.ref l) "tuple" := ⟨_, ho, rfl⟩
    refine wpAny_binaryOp_repeat_ref (T := "tuple") (U := "int") (by decide) isT (fun s1 => typeIs_int s1 1 t) noFill_tuple_mul F.fills_int_mul F.slot_int_rmul repeat_tuple F.slot_int_index.lookup ?_
    refine call_meets F.slot_int_rmul (typeIs_int s 1 t) F.entry_int_rmul (F.args_int_rmul_2 _ _) (int_rmul_tuple 1 t l its.toArray m y0 z0) ⟨ho, rfl, isT, ?_⟩
    refine call_meets F.slot_tuple_mul isT F.entry_tuple_mul (F.args_tuple_mul_2 _ _) (once_mul l its.toArray m y0 z0 t) ⟨ho, ?_⟩
    exact ⟨.ref l, H, I, rfl, q1 rfl⟩
  · exact op_repT pins s σ H _ _ v u Q I rx ry ⟨l, k, xs, rfl, rfl, hT, hne, by omega, h2, hz, q2 (by omega)⟩
end K24
/-! K24FM: the forms of a world. -/
namespace K24
open PySem PySem.Spec PyProof.Rows L2 LamX
theorem pimp {α β : Type} {R S : α → β → Prop} {l : List α} {m : List β} (h : Paired R l m) (f : ∀ a b, R a b → S a b) : Paired S l m := by
  induction h with
  | nil => exact .nil
  | cons a t ih => exact .cons (f _ _ a) ih
def rListK (K : PySem.W.Frag) : List V → Hp → VK → Prop := fun xs H Q => ∃ p ys, xs = [V.ref p] ∧ (SqL K H p ys ∨ SqT K H p ys) ∧ ∀ l, H l = none → Q (.ref l) (upd H l (.lst ys))
abbrev rInt1 : List V → Hp → VK → Prop := fun xs H Q => (∃ i, xs = [V.int i] ∧ Q (V.int i) H) ∨ ∃ k, xs = [V.bl k] ∧ Q (V.int (if k = true then 1 else 0)) H
section
variable {K : PySem.W.Frag}
theorem forms_made {n : Nat} {rt : Addr} {ras : List Addr} {rs : List Row} {a0 a1 a4 a5 a6 a7 a8 a9 b0 b1 b2 b3 b4 : Option V} {H : Hp} {Q : VK} (n4 : n ≤ 4) (hr : SqT K H rt (ras.map V.ref)) (pr : Paired (fun a r => RowAt K H a r.1 r.2.1 r.2.2) ras rs) (hl7 : ras.length ≤ 7) (len : ∀ r ∈ rs, r.1.length = n)
    (h : ∀ (fo : Addr) (as : List Addr) H', Same H H' → H fo = none → H' fo = some (.lst (as.map V.ref)) → as.length = n + rs.length → (∀ (i : Nat) (a : Addr), as[i]? = some a → H a = none ∧ H' a = some (.lst (lineV (List.range n) (formF n rs i)))) → Q (.ref fo) H') :
    tOp rCat (tLc (iRng1 (tCons (tVar 2) tNil)) (gName 7) tYes (tLc (iRng1 (tCons (tVar 2) tNil)) (gName 6) tYes (tCB rInt1 (tCons (tOp rEq (tVar 6) (tVar 7)) tNil)) [6]) [7])
      (tLc (iTup K (tVar 3)) (gName 8) tYes (tCB (rListK K) (tCons (tOp (rIxT K) (tVar 8) (tC (V.int 0))) tNil)) [8]) [a0, a1, some (.int n), some (.ref rt), a4, a5, a6, a7, a8, a9, b0, b1, b2, b3, b4] H Q := by
  refine ⟨_, rfl, n, rfl, by omega, by omega, fun D hD => ?_⟩
  refine lc_range (lo := 0) (n := n) (fun i H' => Same H H' ∧ ∃ as : List Addr, H' D = some (.lst (as.map V.ref)) ∧ as.length = i ∧ ∀ (j : Nat) (a : Addr), as[j]? = some a → H a = none ∧ a ≠ D ∧ H' a = some (.lst (lineV (List.range n) (unitF j)))) ?_ ?_ ?_
  · exact ⟨same_new hD, [], upd_same, rfl, fun j a e => by simp at e⟩
  · rintro i H1 hi ⟨s1, as, e1, e2, e3⟩
    refine ⟨rfl, ?_⟩
    refine iteT (B := Same H H1 ∧ ∃ as : List Addr, H1 D = some (.lst (as.map V.ref)) ∧ as.length = i + 1 ∧ ∀ (j : Nat) (a : Addr), as[j]? = some a → H a = none ∧ a ≠ D ∧ H1 a = some (.lst (lineV (List.range n) (unitF j)))) ?_
    refine ⟨_, rfl, n, rfl, by omega, by omega, fun D2 hD2 => ?_⟩
    refine lc_range (lo := 0) (n := n) (fun j H' => Same H1 H' ∧ H' D2 = some (.lst (lineV (List.range j) (unitF i)))) ?_ ?_ ?_
    · exact ⟨same_new hD2, upd_same⟩
    · rintro j H2 hj ⟨s2, e4⟩
      refine ⟨rfl, ?_⟩
      refine iteT (B := Same H1 H2 ∧ H2 D2 = some (.lst (lineV (List.range (j + 1)) (unitF i)))) ?_
      refine ⟨_, rfl, _, rfl, rfl, .inr ⟨_, rfl, _, e4, ?_, same_put s2 hD2, ?_⟩⟩
      · show (((List.range j).map (unitF i)).map V.int).length < _
        rw [List.length_map, List.length_map, List.length_range]
        exact Nat.lt_of_le_of_lt (by omega : j ≤ 4) (by decide)
      · rw [upd_same]
        unfold lineV
        rw [List.range_succ, List.map_append, List.map_append]
        congr 3
        show [V.int _] = [V.int (unitF i j)]
        congr 2
        unfold unitF
        by_cases q : (i : Int) = (j : Int)
        · rw [if_pos q, if_pos (decide_eq_true (by rw [q]))]
        · rw [if_neg q, if_neg (fun z => q (by
            have := V.int.inj (of_decide_eq_true z)
            omega))]
    · rintro H2 ⟨s2, e4⟩
      have e5 := s2 _ _ e1
      have nD : D2 ≠ D := fun z => by rw [← z, hD2] at e1; cases e1
      refine ⟨_, e5, ?_, same_put (s1.trans s2) hD, as ++ [D2], ?_, ?_, fun j a e => ?_⟩
      · rw [List.length_map, e2]
        exact Nat.lt_of_le_of_lt (by omega : i ≤ 4) (by decide)
      · rw [upd_same, List.map_append]
        rfl
      · rw [List.length_append, e2]
        rfl
      · by_cases jl : j < as.length
        · rw [List.getElem?_append_left jl] at e
          obtain ⟨q1, q2, q3⟩ := e3 j a e
          exact ⟨q1, q2, by rw [upd_ne q2]; exact s2 _ _ q3⟩
        · have ej : j = as.length := by
            have := (List.getElem?_eq_some_iff.mp e).1
            rw [List.length_append, List.length_singleton] at this
            omega
          subst ej
          rw [List.getElem?_append_right (by omega), Nat.sub_self] at e
          obtain rfl : D2 = a := by simpa using e
          exact ⟨s1.free hD2, nD, by rw [upd_ne nD, e4, e2]⟩
  · rintro H1 ⟨s1, as, e1, e2, e3⟩
    refine ⟨_, rfl, rt, rfl, ⟨_, same_tup s1 hr⟩, fun D2 hD2 => ?_⟩
    have nD : D2 ≠ D := fun z => by rw [← z, hD2] at e1; cases e1
    refine lc_tup (K := K) (xs := ras.map V.ref) (fun j H' => Same H1 H' ∧ ∃ bs : List Addr, H' D2 = some (.lst (bs.map V.ref)) ∧ Paired (fun a r => H a = none ∧ a ≠ D2 ∧ H' a = some (.lst (r.1.map V.int))) bs (rs.take j)) ?_ ?_ ?_ ?_
    · exact ⟨same_new hD2, [], upd_same, by rw [List.take_zero]; exact .nil⟩
    · exact fun j H' _ q => same_tup (s1.trans q.1) hr
    · rintro j x H2 hj ⟨s2, bs, e4, e5⟩
      rw [List.getElem?_map] at hj
      obtain ⟨a, ha, rfl⟩ : ∃ a, ras[j]? = some a ∧ V.ref a = x := by
        cases e : ras[j]? with
        | none => rw [e] at hj; cases hj
        | some y => rw [e] at hj; exact ⟨y, rfl, Option.some.inj hj⟩
      obtain ⟨r, hrr, ca, q1, q2⟩ := paired_nth pr ha
      refine ⟨rfl, ?_⟩
      refine iteT (B := Same H1 H2 ∧ ∃ bs : List Addr, H2 D2 = some (.lst (bs.map V.ref)) ∧ Paired (fun a r => H a = none ∧ a ≠ D2 ∧ H2 a = some (.lst (r.1.map V.int))) bs (rs.take (j + 1))) ?_
      have s12 := s1.trans s2
      refine ⟨_, rfl, a, _, _, _, rfl, rfl, same_tup s12 q1, atI_nat (j := 0) rfl, ca, _, rfl, .inr (same_tup s12 q2), fun l hl => ?_⟩
      have e6 := same_new (o := .lst (r.1.map V.int)) hl _ _ e4
      have nl : l ≠ D2 := fun z => by rw [← z, hl] at e4; cases e4
      refine ⟨_, e6, ?_, same_put (s2.trans (same_new hl)) hD2, bs ++ [l], by rw [upd_same, List.map_append]; rfl, ?_⟩
      · rw [List.length_map, Paired.length e5]
        refine Nat.lt_of_le_of_lt (List.length_take_le' ..) (Nat.lt_of_le_of_lt ?_ (by decide : 7 < sizeLine))
        rw [← Paired.length pr]
        exact hl7
      · rw [take_snoc hrr]
        refine Paired.snoc ?_ ⟨s12.free hl, nl, by rw [upd_ne nl, upd_same]⟩
        exact pimp e5 fun y z q => ⟨q.1, q.2.1, by rw [upd_ne q.2.1, upd_ne (ne_of_none q.2.2 hl)]; exact q.2.2⟩
    · rintro H2 ⟨s2, bs, e4, e5⟩
      rw [List.length_map, Paired.length pr, List.take_length] at e5
      have lb := Paired.length e5
      have lrs : rs.length ≤ 7 := by rw [← Paired.length pr]; exact hl7
      refine ⟨D, D2, _, _, rfl, rfl, s2 _ _ e1, e4, ?_, fun p hp => ?_⟩
      · rw [List.length_map, List.length_map, e2, lb]
        exact Nat.le_of_lt (Nat.lt_of_le_of_lt (by omega : n + rs.length ≤ 11) (by decide))
      · have s12 := s1.trans s2
        have sp := s12.trans (same_new (o := .lst (as.map V.ref ++ bs.map V.ref)) hp)
        refine h p (as ++ bs) _ sp (s12.free hp) (by rw [upd_same, List.map_append]) (by rw [List.length_append, e2, lb]) fun i a e => ?_
        by_cases il : i < n
        · rw [List.getElem?_append_left (by omega)] at e
          obtain ⟨q1, q2, q3⟩ := e3 i a e
          refine ⟨q1, ?_⟩
          rw [upd_ne (ne_of_none (s2 _ _ q3) hp), s2 _ _ q3]
          have : formF n rs i = unitF i := by
            funext c
            unfold formF unitF
            rw [if_pos (by omega)]
          rw [this]
        · rw [List.getElem?_append_right (by omega), e2] at e
          obtain ⟨r, er, q1, q2, q3⟩ := paired_nth e5 e
          refine ⟨q1, ?_⟩
          rw [upd_ne (ne_of_none q3 hp), q3]
          congr 2
          unfold lineV
          congr 1
          have ln := len r (List.mem_of_getElem? er)
          refine List.ext_getElem (by rw [List.length_map, List.length_range, ln]) fun k k1 k2 => ?_
          rw [List.getElem_map, List.getElem_range]
          unfold formF
          rw [if_neg (by omega), show ((i : Int) - n).toNat = i - n by omega, show rs.getD (i - n) ([], false, 0) = r by rw [List.getD_eq_getElem?_getD, er]; rfl, List.getD_eq_getElem?_getD, List.getElem?_eq_getElem k1]
          rfl
end
end K24
/-! K24DU: two tables made; the box; parts of a tuple. -/
namespace K24
open PySem PySem.Spec PyProof.Rows L2 LamX
section
variable {K : PySem.W.Frag} {C : Addr}
/-- a new object with its own dict, then what only touches it -/
theorem made_same {H H2 : Hp} {x dx : Addr} (hx : H x = none) (hd : H dx = none) (k : Keep [x] (upd (upd H dx (.own x)) x (.ins C dx [])) H2) : Same H H2 := fun b u e => by
  have n1 : b ≠ x := ne_of_none e hx
  have n2 : b ≠ dx := ne_of_none e hd
  refine k b u (by rw [upd_ne n1, upd_ne n2]; exact e) fun z => n1 (List.mem_singleton.mp z)
theorem made_free {H : Hp} {x dx b : Addr} {u v : HO} (h : upd (upd H dx u) x v b = none) : H b = none := by
  by_cases e1 : b = x
  · subst e1
    rw [upd_same] at h
    cases h
  · rw [upd_ne e1] at h
    by_cases e2 : b = dx
    · subst e2
      rw [upd_same] at h
      cases h
    · rwa [upd_ne e2] at h
theorem wr_live {H : Hp} {b : Addr} (w : Wr H b) : H b ≠ none := fun z => by
  rcases w with ⟨_, _, _, e⟩ | ⟨_, e⟩ | ⟨_, e⟩ <;> rw [z] at e <;> cases e
theorem duo_init {n N : Nat} {F : Int → Nat → Int} {H0 H H2 H3 H5 : Hp} {o nn fo : Addr} {as : List Addr} {S : List (Addr × Str)} {La Lb : Lay} {Ta Tb : Tab} {x dx y dy : Addr}
    (k : Keep [o, nn] H0 H) (hh : HeapAt H o nn) (ts : Tabs S H) (fe : H fo = some (.lst (as.map V.ref))) (fl : as.length = N) (fr : ∀ (i : Nat) (a : Addr), as[i]? = some a → H a = some (.lst (lineV (List.range n) (F i)))) (fn : ∀ b, b = fo ∨ b ∈ as → b ≠ o ∧ b ≠ nn)
    (hx : H x = none) (hdx : H dx = none) (ka : Keep [x] (upd (upd H dx (.own x)) x (.ins C dx [])) H2) (fa : ∀ b ∈ La.fp, b = x ∨ upd (upd H dx (.own x)) x (.ins C dx []) b = none) (ra : ∀ b, La.rows b → upd (upd H dx (.own x)) x (.ins C dx []) b = none) (ta : TabAt K C H2 La Ta)
    (s : Same H2 H3) (hy : H3 y = none) (hdy : H3 dy = none) (kb : Keep [y] (upd (upd H3 dy (.own y)) y (.ins C dy [])) H5) (fb : ∀ b ∈ Lb.fp, b = y ∨ upd (upd H3 dy (.own y)) y (.ins C dy []) b = none) (rb : ∀ b, Lb.rows b → upd (upd H3 dy (.own y)) y (.ins C dy []) b = none) (tb : TabAt K C H5 Lb Tb) :
    ∃ La' Lb', La'.p = La.p ∧ Lb'.p = Lb.p ∧ Duo K C n N F H0 H5 o nn fo as S La' Ta Lb' Tb := by
  have s2 : Same H H2 := made_same hx hdx ka
  have s5 : Same H3 H5 := made_same hy hdy kb
  have s3 : Same H H3 := s2.trans s
  have sA : Same H H5 := s3.trans s5
  have nA : ∀ b ∈ La.fp, H b = none := fun b hb => by
    rcases fa b hb with rfl | h
    · exact hx
    · exact made_free h
  have nB : ∀ b ∈ Lb.fp, H3 b = none := fun b hb => by
    rcases fb b hb with rfl | h
    · exact hy
    · exact made_free h
  have lA : ∀ b ∈ La.fp, H3 b ≠ none := fun b hb z => wr_live (ta.wr b hb) (s.free z)
  have lo : H o ≠ none := wr_live (hh.wr o (by simp))
  have ln : H nn ≠ none := wr_live (hh.wr nn (by simp))
  have lf : ∀ b, b = fo ∨ b ∈ as → H b ≠ none := fun b hb z => by
    rcases hb with rfl | hb
    · rw [fe] at z
      cases z
    · obtain ⟨i, hi, e⟩ := List.mem_iff_getElem.mp hb
      rw [fr i b (by rw [List.getElem?_eq_getElem hi, e])] at z
      cases z
  have new0 : ∀ b, H b = none → NewN H0 b := fun b hb u e => by
    by_cases m : b ∈ [o, nn]
    · exact absurd hb (wr_live (hh.wr b m))
    · rw [k b u e m] at hb
      cases hb
  refine ⟨La.live H2, Lb.live H5, rfl, rfl, ta.tight.same (s.trans s5), tb.tight, hh.same sA, ?_, ?_, ?_, ?_, ?_, fun b h => h.2, sA _ _ fe, fl, fun i a e => sA _ _ (fr i a e), ?_, fun b u e nb _ => sA _ _ (k b u e nb), fun b hb => new0 b (nA b hb), fun b hb => new0 b (s3.free (nB b hb)), tabs_same ts sA⟩
  · exact ⟨fun z => lo (nA _ z), fun z => ln (nA _ z), fun z => lo (made_free (ra _ z.1)), fun z => ln (made_free (ra _ z.1))⟩
  · exact ⟨fun z => lo (s3.free (nB _ z)), fun z => ln (s3.free (nB _ z)), fun z => lo (s3.free (made_free (rb _ z.1))), fun z => ln (s3.free (made_free (rb _ z.1)))⟩
  · exact fun b hb => ⟨fun z => lA b hb (nB b z), fun z => lA b hb (made_free (rb b z.1))⟩
  · refine fun b hb => ⟨fun z => lA b z (nB b hb), fun z => ?_⟩
    obtain ⟨_, _, e⟩ := z
    have := s _ _ e
    rw [nB b hb] at this
    cases this
  · intro b h
    obtain ⟨_, kvs, e⟩ := h
    exact ⟨kvs, (s.trans s5) _ _ e⟩
  · intro b hb
    obtain ⟨q1, q2⟩ := fn b hb
    exact ⟨q1, q2, fun z => lf b hb (nA b z), fun z => lf b hb (s3.free (nB b z))⟩
theorem box_made {n : Nat} {σ : L2.St} {H : Hp} {Q : VK} (n1 : 1 ≤ n) (n4 : n ≤ 4) (hσ : σ[2]? = some (some (.int n))) (h : ∀ ba H', Same H H' → BoxAt K H' ba (List.replicate n (-9, 9)) → Q (.ref ba) H') :
    tOp (rRepA K) (tTup (tCons (tTup (tCons (tOp (rI0 fun i j => V.int (i - j)) (tC (V.int 0)) (tC (V.int 9))) (tCons (tC (V.int 9)) tNil))) tNil)) (tVar 2) σ H Q := by
  refine ⟨_, _, rfl, rfl, (by show 2 ≤ sizeLine; decide), fun p hp => ⟨(by show 1 ≤ sizeLine; decide), fun q hq => ⟨_, hσ, q, n, _, rfl, rfl, SqT.of upd_same, (fun z => nomatch z), by omega, by omega, (by show 1 ≤ 1000; decide), fun e => ?_, fun e b hb => ?_⟩⟩⟩
  · have : n = 1 := by omega
    subst this
    refine h q _ ((same_new hp).trans (same_new hq)) ⟨[p], SqT.of upd_same, .cons ?_ .nil⟩
    exact SqT.of ((same_new hq) _ _ upd_same)
  · refine h b _ (((same_new hp).trans (same_new hq)).trans (same_new hb)) ⟨List.replicate n p, SqT.of ?_, ?_⟩
    · rw [upd_same]
      congr 2
      rw [show ((n : Int)).toNat = n from rfl]
      clear hσ n1 n4 e h hb
      induction n with
      | zero => rfl
      | succ n ih => rw [List.replicate_succ, List.flatten_cons, ih, List.replicate_succ]; rfl
    · have g : SqT K (upd (upd (upd H p (.tup [.int (0 - 9), .int 9])) q (.tup [.ref p])) b (.tup (List.replicate ((n : Int)).toNat [V.ref p]).flatten)) p [.int (-9), .int 9] := SqT.of ((same_new hb) _ _ ((same_new hq) _ _ upd_same))
      clear hσ n1 n4
      generalize upd (upd (upd H p (.tup [.int (0 - 9), .int 9])) q (.tup [.ref p])) b (.tup (List.replicate ((n : Int)).toNat [V.ref p]).flatten) = G at g ⊢
      clear e h hb
      induction n with
      | zero => exact .nil
      | succ n ih => exact .cons g ih
/-- a part of a tuple, whole or new -/
theorem sl_go {xs : List V} {a : Addr} {lo hi : Option Int} {H : Hp} {Q : VK} (hx : SqT K H a xs) (h : ∀ b H', Same H H' → SqT K H' b (cutV xs lo hi) → Q (.ref b) H') : rSlA K (.ref a) lo hi H Q := by
  refine ⟨a, xs, rfl, hx, fun w => h a H (Same.refl H) ?_, fun _ p hp => h p _ (same_new hp) (SqT.of upd_same)⟩
  have : cutV xs lo hi = xs := by
    unfold cutV
    rw [w.1, w.2, List.drop_zero, Nat.sub_zero, List.take_length]
  rw [this]
  exact hx
theorem cut_first (xs : List V) : cutV xs none (some 1) = xs.take 1 := by
  cases xs with
  | nil => rfl
  | cons x t => simp [cutV, HT.sIx]
theorem cut_rest (xs : List V) : cutV xs (some 1) none = xs.drop 1 := by
  cases xs with
  | nil => rfl
  | cons x t => simp [cutV, HT.sIx]
end
end K24
/-! K24GV: the ends of all places given away. -/
namespace K24
open PySem PySem.Spec PyProof.Rows L2 LamX
/-- what a table's ends are at its start -/
structure Ends0 (T : Tab) : Prop where
  col : ∀ c ∈ T.cols, T.spans[c.toNat]? = some (some (-9, 1), some (9, 1))
  sm : ∀ e ∈ T.spans, SmE e
  zero : ∀ c ∈ T.cols, T.hv c = (0, 1)
  hv : ∀ c, Sm (T.hv c)
theorem sm_small {a b : Int} (ha : a.natAbs < 2 ^ 50) (hb : b.natAbs < 2 ^ 50) : Sm (a, b) :=
  ⟨Nat.lt_of_lt_of_le ha (Nat.pow_le_pow_right (by decide) (by decide)), Nat.lt_of_lt_of_le hb (Nat.pow_le_pow_right (by decide) (by decide))⟩
theorem betw_box : betw (0, 1) (some (-9, 1), some (9, 1)) = (0, 1) ∧ betw (0, 1) (none, some (9, 1)) = (0, 1) ∧ betw (0, 1) (none, none) = (0, 1) := by decide +kernel
theorem sm_betw {q : Fr} {e : Ends2} (h : Sm q) (he : SmE e) : Sm (betw q e) := by
  obtain ⟨l, u⟩ := e
  obtain ⟨h1, h2⟩ := he
  cases l with
  | none =>
    cases u with
    | none => exact h
    | some u =>
      show Sm (if lessF u q = true then u else q)
      split
      · exact h2
      · exact h
  | some l =>
    show Sm (if lessF q l = true then l else _)
    split
    · exact h1
    · cases u with
      | none => exact h
      | some u =>
        show Sm (if lessF u q = true then u else q)
        split
        · exact h2
        · exact h
theorem base_ends {n : Nat} {bs : List (Int × Int)} (hb : ∀ b ∈ bs, b = (-9, 9)) : Ends0 (baseT bs) where
  col := fun c hc => by
    have := idx_mem.mp (show c ∈ idx bs.length from hc)
    show (bs.map boxEnds)[c.toNat]? = _
    have hl : c.toNat < bs.length := by omega
    rw [List.getElem?_map, List.getElem?_eq_getElem hl]
    show some (boxEnds bs[c.toNat]) = _
    rw [hb _ (List.getElem_mem hl)]
    rfl
  sm := fun e he => by
    obtain ⟨b, hm, rfl⟩ := List.mem_map.mp (show e ∈ bs.map boxEnds from he)
    rw [hb b hm]
    exact ⟨sm_small (by decide) (by decide), sm_small (by decide) (by decide)⟩
  zero := fun c hc => by
    have := idx_mem.mp (show c ∈ idx bs.length from hc)
    show betw (0, 1) ((bs.map boxEnds).getD c.toNat (none, none)) = _
    have hl : c.toNat < bs.length := by omega
    rw [List.getD_eq_getElem?_getD, List.getElem?_map, List.getElem?_eq_getElem hl]
    show betw (0, 1) (boxEnds bs[c.toNat]) = _
    rw [hb _ (List.getElem_mem hl)]
    exact betw_box.1
  hv := fun c => by
    show Sm (betw (0, 1) ((bs.map boxEnds).getD c.toNat (none, none)))
    refine sm_betw sm01 ?_
    rw [List.getD_eq_getElem?_getD, List.getElem?_map]
    cases e : bs[c.toNat]? with
    | none => exact ⟨trivial, trivial⟩
    | some b =>
      show SmE (boxEnds b)
      rw [hb b (List.mem_of_getElem? e)]
      exact ⟨sm_small (by decide) (by decide), sm_small (by decide) (by decide)⟩
theorem add_ends {T : Tab} {cs : List Int} {eq : Bool} {b : Int} (h : Ends0 T) (hc : ∀ c ∈ T.cols, 0 ≤ c ∧ c < T.spans.length) (hb : b.natAbs ≤ 6) : Ends0 (addT T cs eq b) where
  col := fun c hm => by
    show (T.spans ++ [rowEnds eq b])[c.toNat]? = _
    have := hc c hm
    rw [List.getElem?_append_left (by omega)]
    exact h.col c hm
  sm := fun e he => by
    rcases List.mem_append.mp (show e ∈ T.spans ++ [rowEnds eq b] from he) with he | he
    · exact h.sm e he
    · rw [List.mem_singleton.mp he]
      have q : Sm (b, 1) := sm_small (Nat.lt_of_le_of_lt hb (by decide)) (by decide)
      refine ⟨q, ?_⟩
      show SmO (if eq = true then some (b, 1) else none)
      split
      · exact q
      · trivial
  zero := h.zero
  hv := h.hv
theorem init_ends {bs : List (Int × Int)} {r0 : List Row} (hb : ∀ b ∈ bs, b = (-9, 9)) (few : bs.length + r0.length ≤ 20) (hr : ∀ r ∈ r0, (∀ x ∈ r.1, x.natAbs < 2 ^ 700) ∧ r.2.2.natAbs ≤ 6) : Ends0 (initT bs r0) := by
  suffices h : ∀ (m : Nat) (rs : List Row), rs.length = m → (∀ r ∈ rs, (∀ x ∈ r.1, x.natAbs < 2 ^ 700) ∧ r.2.2.natAbs ≤ 6) → bs.length + rs.length ≤ 20 → Ends0 (initT bs rs) from h _ r0 rfl hr few
  intro m
  induction m with
  | zero =>
    intro rs e _ _
    rw [List.length_eq_zero_iff.mp e]
    exact base_ends (n := 0) hb
  | succ m ih =>
    intro rs e hr hl
    obtain ⟨r0, r, rfl⟩ : ∃ r0 r, rs = r0 ++ [r] := ⟨rs.dropLast, rs.getLast (by intro z; rw [z] at e; cases e), (List.dropLast_concat_getLast _).symm⟩
    rw [List.length_append, List.length_singleton] at e hl
    have q := ih r0 (by omega) (fun x hx => hr x (List.mem_append_left _ hx)) (by omega)
    have st := start_rows (bs := bs) (r0 := r0) (by omega) fun r h => (hr r (List.mem_append_left _ h)).1
    unfold initT
    rw [rowsT_snoc]
    exact add_ends q (fun c hc => (st.ok.mem c).mp (.inl hc)) (hr r (by simp)).2
theorem init_log (bs : List (Int × Int)) (r0 : List Row) : (initT bs r0).log = 0 := by
  suffices h : ∀ (rs : List Row) (T : Tab), T.log = 0 → (rowsT T rs).log = 0 from h r0 _ rfl
  intro rs
  induction rs with
  | nil => exact fun T h => h
  | cons r t ih => exact fun T h => ih (addT T r.1 r.2.1 r.2.2) h
/-- places below p are free, at p side j is next -/
structure Giv (T0 : Tab) (p j : Nat) (T : Tab) : Prop where
  kin : Kin T0 T
  lo : ∀ i, i < p → T.spans[i]? = some (none, none)
  hi : ∀ i, p < i → T.spans[i]? = T0.spans[i]?
  at0 : j = 0 → T.spans[p]? = T0.spans[p]?
  at1 : j = 1 → ∃ h, T.spans[p]? = some (none, h) ∧ SmE (none, h) ∧ ((p : Int) ∈ T0.cols → h = some (9, 1))
  at2 : j = 2 → T.spans[p]? = some (none, none)
  log : T.log = 2 * p + j
  zero : ∀ c ∈ T0.cols, T.hv c = (0, 1)
  hv : ∀ c, Sm (T.hv c)
theorem Giv.start {T0 : Tab} (e : Ends0 T0) (hl : T0.log = 0) : Giv T0 0 0 T0 := ⟨Kin.refl _, fun i h => absurd h (by omega), fun _ _ => rfl, fun _ => rfl, fun z => absurd z (by decide), fun z => absurd z (by decide), by rw [hl], e.zero, e.hv⟩
theorem Giv.next {T0 T : Tab} {p : Nat} (g : Giv T0 p 2 T) : Giv T0 (p + 1) 0 T :=
  ⟨g.kin, fun i h => (by
    by_cases e : i = p
    · rw [e]; exact g.at2 rfl
    · exact g.lo i (by omega)), fun i h => g.hi i (by omega), fun _ => g.hi _ (by omega), fun z => absurd z (by decide), fun z => absurd z (by decide), by rw [g.log]; omega, g.zero, g.hv⟩
theorem nat_getD {l : List Ends2} {p : Nat} {e : Ends2} {i : Nat} : (l.set p e)[i]? = if i = p ∧ p < l.length then some e else l[i]? := by
  by_cases h : i = p
  · subst h
    by_cases hl : i < l.length
    · rw [if_pos ⟨rfl, hl⟩, List.getElem?_set_self hl]
    · rw [if_neg (fun z => hl z.2), List.getElem?_eq_none (by rw [List.length_set]; omega), List.getElem?_eq_none (by omega)]
  · rw [if_neg (fun z => h z.1), List.getElem?_set_ne (by omega)]
theorem Giv.one {T0 T : Tab} {p : Nat} (en : Ends0 T0) (g : Giv T0 p 0 T) (hp : p < T0.spans.length) : ∃ lo hi, T.spans[p]? = some (lo, hi) ∧ SmE (none, hi) ∧ Giv T0 p 1 (giveT T p (none, hi) (T.log + 1)) := by
  obtain ⟨lo, hi, e⟩ : ∃ lo hi, T0.spans[p]? = some (lo, hi) := ⟨_, _, List.getElem?_eq_getElem hp⟩
  have s := en.sm _ (List.mem_of_getElem? e)
  have se : SmE (none, hi) := ⟨trivial, s.2⟩
  have hp2 : p < T.spans.length := by rw [g.kin.len]; exact hp
  have hc : ∀ c ∈ T0.cols, c = (p : Int) → hi = some (9, 1) := fun c hc z => by
    have := en.col c hc
    rw [z, Int.toNat_natCast, e] at this
    cases this
    rfl
  refine ⟨lo, hi, by rw [g.at0 rfl, e], se, g.kin.give _ _ _, fun i h => ?_, fun i h => ?_, fun z => absurd z (by decide), fun _ => ⟨hi, ?_, se, fun h => hc _ h rfl⟩, fun z => absurd z (by decide), ?_, fun c h => ?_, fun c => ?_⟩
  · show (T.spans.set _ _)[i]? = _
    rw [Int.toNat_natCast, nat_getD, if_neg (by omega)]
    exact g.lo i h
  · show (T.spans.set _ _)[i]? = _
    rw [Int.toNat_natCast, nat_getD, if_neg (by omega)]
    exact g.hi i h
  · show (T.spans.set _ _)[p]? = _
    rw [Int.toNat_natCast, nat_getD, if_pos ⟨rfl, hp2⟩]
  · show T.log + 1 = _
    rw [g.log]
  · show (if c = (p : Int) then betw (T.hv p) (none, hi) else T.hv c) = _
    by_cases z : c = (p : Int)
    · rw [if_pos z, ← z, g.zero c h, hc c h z]
      exact betw_box.2.1
    · rw [if_neg z]
      exact g.zero c h
  · show Sm (if c = (p : Int) then betw (T.hv p) (none, hi) else T.hv c)
    split
    · exact sm_betw (g.hv _) se
    · exact g.hv c
theorem Giv.two {T0 T : Tab} {p : Nat} (g : Giv T0 p 1 T) (hp : p < T0.spans.length) : ∃ hi, T.spans[p]? = some (none, hi) ∧ Giv T0 p 2 (giveT T p (none, none) (T.log + 1)) := by
  obtain ⟨hi, e, se, hc⟩ := g.at1 rfl
  have hp2 : p < T.spans.length := by rw [g.kin.len]; exact hp
  refine ⟨hi, e, g.kin.give _ _ _, fun i h => ?_, fun i h => ?_, fun z => absurd z (by decide), fun z => absurd z (by decide), fun _ => ?_, ?_, fun c h => ?_, fun c => ?_⟩
  · show (T.spans.set _ _)[i]? = _
    rw [Int.toNat_natCast, nat_getD, if_neg (by omega)]
    exact g.lo i h
  · show (T.spans.set _ _)[i]? = _
    rw [Int.toNat_natCast, nat_getD, if_neg (by omega)]
    exact g.hi i h
  · show (T.spans.set _ _)[p]? = _
    rw [Int.toNat_natCast, nat_getD, if_pos ⟨rfl, hp2⟩]
  · show T.log + 1 = _
    rw [g.log]
  · show (if c = (p : Int) then betw (T.hv p) (none, none) else T.hv c) = _
    by_cases z : c = (p : Int)
    · rw [if_pos z, ← z, g.zero c h]
      exact betw_box.2.2
    · rw [if_neg z]
      exact g.zero c h
  · show Sm (if c = (p : Int) then betw (T.hv p) (none, none) else T.hv c)
    split
    · exact sm_betw (g.hv _) ⟨trivial, trivial⟩
    · exact g.hv c
theorem Giv.any {T0 T : Tab} {p j : Nat} (en : Ends0 T0) (g : Giv T0 p j T) (hp : p < T0.spans.length) (hj : j < 2) : ∃ lo hi e, T.spans[p]? = some (lo, hi) ∧ (((j : Int) = 0 ∧ e = (none, hi)) ∨ ((j : Int) = 1 ∧ lo = none ∧ e = (none, none))) ∧ SmE e ∧ Giv T0 p (j + 1) (giveT T p e (T.log + 1)) := by
  match j, hj, g with
  | 0, _, g =>
    obtain ⟨lo, hi, h1, h2, h3⟩ := g.one en hp
    exact ⟨lo, hi, _, h1, .inl ⟨rfl, rfl⟩, h2, h3⟩
  | 1, _, g =>
    obtain ⟨hi, h1, h3⟩ := g.two hp
    exact ⟨none, hi, _, h1, .inr ⟨rfl, rfl, rfl⟩, ⟨trivial, trivial⟩, h3⟩
end K24
/-! K24WE: the rest of _law_world_right, from the ways on. -/
namespace K24
open PySem PySem.Spec PyProof.Rows L2 LamX
theorem LawT.cols_iff {n N : Nat} {F : Int → Nat → Int} {T : Tab} (L : LawT n N F T) (k : Int) : k ∈ T.cols ↔ (0 ≤ k ∧ k < (N : Int)) ∧ k ∉ T.basis := by
  have := L.ok.mem k
  rw [L.len] at this
  constructor
  · exact fun h => ⟨this.mp (.inl h), fun z => L.ok.dj k z h⟩
  · exact fun h => (this.mpr h.1).resolve_right h.2
theorem dd_rows {K : PySem.W.Frag} {H : Hp} {kvs kvs' : List (Key × V)} {ks : List Int} {g : Int → Fr} (p1 : PD (HeldR K H) kvs ks g) (p2 : PD (HeldR K H) kvs' ks g) :
    kvs.length = kvs'.length ∧ ∀ p ∈ kvs, ∃ q d, valV kvs' p.1 = some q ∧ L2.Dp K H p.2 d ∧ L2.Dp K H q d ∧ SeqAt.shaped d = true ∧ PyData.eqv d d = true := by
  refine ⟨p1.length.trans p2.length.symm, fun p hp => ?_⟩
  obtain ⟨i, hi, rfl⟩ := List.mem_iff_getElem.mp hp
  have hk : i < ks.length := by rw [← p1.length]; exact hi
  obtain ⟨v, e, r⟩ := p1.nth (List.getElem?_eq_getElem hk)
  rw [List.getElem?_eq_getElem hi] at e
  rw [Option.some.inj e]
  obtain ⟨v', e', r'⟩ := p2.get (List.getElem_mem hk)
  obtain ⟨a, rfl, fa⟩ := r
  obtain ⟨b, rfl, fb⟩ := r'
  exact ⟨_, _, e', frD_dp fa, frD_dp fb, frD_shaped _, frD_eqv _⟩
theorem if_then {b : Bool} {t : TS} {D : Ends} {σ : L2.St} {H : Hp} (I : L2.St → Hp → Prop) (h1 : I σ H) (hn : ∀ σ H, I σ H → D.nx σ H) (h2 : b = true → ∀ D' : Ends, (∀ σ H, I σ H → D'.nx σ H) → t D' σ H) : if b = true then t D σ H else tNext D σ H := by
  cases b with
  | true => exact iteT (h2 rfl D hn)
  | false => exact iteF (hn σ H h1)
section
variable {K : PySem.W.Frag} {C cR : Addr} {gV : List V → List V → List V} {S : List (Addr × Str)} {n N : Nat} {F : Int → Nat → Int} {H0 : Hp} {o nn fo : Addr} {as : List Addr}
abbrev tER (K : PySem.W.Frag) (C : Addr) (i : Nat) : TE := tCall (spERight K C) [] E0 (tCons (tVar i) (tCons (tVar 5) tNil))
abbrev tBas (K : PySem.W.Frag) (C : Addr) (i : Nat) : TE := tProp C (spKeys K C Tab.basis) [] E0 (tVar i)
abbrev tOps (K : PySem.W.Frag) (C cR : Addr) (gV : List V → List V → List V) : TS := tFor (iTup K (tVar 13)) (gName 7) (tIfS (tTest (tOp (rNeDD K) (tMethK C "row_at" (spRowAt K C cR) gV E0 (tVar 11) (tCons (tVar 7) tNil)) (tMeth C "row_at" (spRowAt K C cR) [] E0 (tVar 10) (tCons (tVar 7) tNil)))) (tRet (tC (.bl false))) tNext)
/-- at the goal: the same rows -/
theorem world_rows {La Lb : Lay} {Ta Tb : Tab} {D : Ends} {H : Hp} {ga : Addr} {s0 s1 s2 s3 s4 s5 s6 x7 s8 s9 s12 s14 : Option V} (hg1 : ∀ x y, gV [x] [y] = [x, y]) (d : Duo K C n N F H0 H o nn fo as S La Ta Lb Tb) (la : LawT n N F Ta) (lb : LawT n N F Tb) (hb : ∀ k, k ∈ Tb.basis ↔ k ∈ srt Ta.basis) (hga : SqT K H ga ((srt Ta.basis).map V.int))
    (hn : ∀ y7 H', Duo K C n N F H0 H' o nn fo as S La Ta Lb Tb → D.nx [s0, s1, s2, s3, s4, s5, s6, y7, s8, s9, some (.ref La.p), some (.ref Lb.p), s12, some (.ref ga), s14] H') :
    tOps K C cR gV D [s0, s1, s2, s3, s4, s5, s6, x7, s8, s9, some (.ref La.p), some (.ref Lb.p), s12, some (.ref ga), s14] H := by
  refine ⟨_, rfl, ga, rfl, ⟨_, hga⟩, ?_⟩
  refine for_tup (K := K) (xs := (srt Ta.basis).map V.int) (fun i σ H' => (∃ y7, σ = [s0, s1, s2, s3, s4, s5, s6, y7, s8, s9, some (.ref La.p), some (.ref Lb.p), s12, some (.ref ga), s14] ∧ Duo K C n N F H0 H' o nn fo as S La Ta Lb Tb) ∧ SqT K H' ga ((srt Ta.basis).map V.int)) ⟨⟨_, rfl, d⟩, hga⟩ (fun i σ H' _ q => q.2) ?_ ?_
  · rintro i x σ H' hx ⟨⟨y7, rfl, d⟩, hg⟩
    rw [List.getElem?_map] at hx
    obtain ⟨k, hk, rfl⟩ : ∃ k, (srt Ta.basis)[i]? = some k ∧ V.int k = x := by
      cases e : (srt Ta.basis)[i]? with
      | none => rw [e] at hx; cases hx
      | some y => rw [e] at hx; exact ⟨y, rfl, Option.some.inj hx⟩
    have hks := List.mem_of_getElem? hk
    have hka : k ∈ Ta.basis := srt_mem.mp hks
    have hkb : k ∈ Tb.basis := (hb k).mpr hks
    refine ⟨_, rfl, Lb.p, _, _, rfl, d.tb.ins, rfl, _, rfl, ?_⟩
    dsimp only [tNil]
    rw [hg1]
    refine ⟨Lb, Tb, .int k, "int", rfl, d.tb, lb.ok, .int _, (fun e => by rw [lb.inb hkb] at e; cases e), fun k' ek _ a H2 kvs z2 na ea pd => ?_⟩
    cases ek
    have d1 := d.same z2
    refine ⟨_, rfl, La.p, _, _, rfl, d1.ta.ins, rfl, _, rfl, La, Ta, .int k, "int", rfl, d1.ta, la.ok, .int _, (fun e => by rw [la.inb hka] at e; cases e), fun k' ek _ a' H3 kvs' z3 na' ea' pd' => ?_⟩
    cases ek
    have hc : ∀ j, j ∈ Tb.cols ↔ j ∈ Ta.cols := fun j => by rw [lb.cols_iff, la.cols_iff, hb j, srt_mem]
    obtain ⟨q1, q2⟩ := rows_eq lb la hc hkb hka
    have pd2 : PD (HeldR K H3) kvs' (nzs Tb k) (rowF Tb k) := by
      rw [q1]
      exact pd'.congr fun c hc => (q2 c (by rw [q1]; exact hc)).symm
    obtain ⟨z4, z5⟩ := dd_rows (pd.imp fun v x ⟨b, e, r⟩ => ⟨b, e, r.same z3⟩) pd2
    refine ⟨a, a', kvs, kvs', rfl, rfl, z3 _ _ ea, ea', z4, z5, _, rfl, iteF ?_⟩
    exact ⟨⟨_, rfl, d1.same z3⟩, same_tup (z2.trans z3) hg⟩
  · rintro σ H' ⟨⟨y7, rfl, d⟩, _⟩
    exact hn y7 H' d
theorem world_rest {La Lb : Lay} {Ta Tb : Tab} {D : Ends} {H : Hp} {turns : Int} {s2 s3 s4 s6 x7 s8 s9 s12 s13 s14 : Option V} (hg1 : ∀ x y, gV [x] [y] = [x, y]) (u0 : 0 ≤ turns) (u1 : turns ≤ 100) (d : Duo K C n N F H0 H o nn fo as S La Ta Lb Tb) (la : LawT n N F Ta) (lb : LawT n N F Tb)
    (h : ∀ H', KeepN [o, nn] H0 H' → HeapAt H' o nn → Tabs S H' → D.rt (.bl true) H') :
    tSeq (tDrop (tCall (spWander K C) [] E0 (tCons (tVar 0) (tCons (tVar 10) (tCons (tVar 1) tNil)))))
      (tSeq (tDrop (tCall (spWander K C) [] E0 (tCons (tVar 0) (tCons (tVar 11) (tCons (tC (.int 2)) tNil)))))
      (tSeq (tIfS (tOr (tNot (tB (tER K C 10))) (tNot (tB (tER K C 11)))) (tRet (tC (.bl false))) tNext)
      (tSeq (tAsg (tBas K C 10) (gName 13))
      (tSeq (tIfS (tB (tCall (spLed K C) [] E0 (tCons (tVar 11) (tCons (tVar 13) tNil)))) (tOps K C cR gV) tNext)
      (tSeq (tAsg (tBas K C 10) (gName 14))
      (tSeq (tIfS (tOr (tNot (tB (tER K C 11))) (tTest (tOp (rNeD K) (tBas K C 10) (tVar 14)))) (tRet (tC (.bl false))) tNext)
      (tRet (tAndV (tCall (spBack K C S) [] E0 (tCons (tVar 0) (tCons (tVar 10) tNil))) (tAndV (tCall (spBack K C S) [] E0 (tCons (tVar 0) (tCons (tVar 11) tNil))) (tCall (spRefuse K C S) [] E0 (tCons (tVar 0) (tCons (tVar 10) tNil)))))))))))) D
      [some (.ref o), some (.int turns), s2, s3, s4, some (.ref fo), s6, x7, s8, s9, some (.ref La.p), some (.ref Lb.p), s12, s13, s14] H := by
  refine ⟨_, rfl, _, rfl, _, rfl, o, nn, La, Ta, n, N, F, turns, rfl, d.hh, d.ta, la, d.wa, u0, u1, fun L' T' H2 dd hh2 => ?_⟩
  obtain ⟨La2, e2, d2, l2⟩ := d.stepD dd (fun b hb => hb) hh2
  clear dd hh2 d la
  rw [← e2]
  refine ⟨_, rfl, _, rfl, o, nn, Lb, Tb, n, N, F, 2, rfl, d2.hh, d2.tb, lb, d2.wb, by decide, by decide, fun L3' T3' H3 dd hh3 => ?_⟩
  obtain ⟨Lb3, e3, d3, l3⟩ := d2.swap.stepD dd (fun b hb => hb) hh3
  clear dd hh3 d2 lb
  rw [← e3]
  have d4 := d3.swap
  clear d3
  refine ⟨_, rfl, _, rfl, La2, T', fo, n, N, F, rfl, d4.ta, l2, d4.forms, fun H4 s4 => ⟨_, rfl, ?_⟩⟩
  have d5 := d4.same s4
  refine iteF ?_
  refine ⟨_, rfl, _, rfl, Lb3, T3', fo, n, N, F, rfl, d5.tb, l3, d5.forms, fun H5 s5 => ⟨_, rfl, iteF ?_⟩⟩
  have d6 := d5.same s5
  clear d4 d5 s4 s5
  dsimp only [tNext]
  refine ⟨_, rfl, _, _, _, rfl, d6.ta.ins, La2, T', rfl, d6.ta, fun ga H6 s6 nb hga => ?_⟩
  have d7 := d6.same s6
  clear d6 s6 nb
  refine ⟨_, rfl, _, rfl, Lb3, T3', ga, n, N, F, srt T'.basis, rfl, d7.tb, l3, SqT.of hga, srt_nodup l2.ok.nb, (by rw [srt_length]; have := l2.blen; have := l3.blen; omega), fun g hg => ?_, fun b L' T5 H7 dd hb => ⟨_, rfl, ?_⟩⟩
  · have := (l2.ok.mem g).mp (.inr (srt_mem.mp hg))
    rw [l2.len] at this
    exact this
  obtain ⟨Lb5, e5, d8, l5⟩ := d7.swap.stepD dd (fun b hb => nomatch hb) (d7.hh.keep dd.keep d7.wb.o1 d7.wb.n1)
  have hga7 : SqT K H7 ga ((srt T'.basis).map V.int) := keep_tup dd.keep d7.tb.wr (SqT.of hga)
  clear dd d7 hga
  rw [← e5]
  have d9 := d8.swap
  clear d8
  refine if_then (fun σ H8 => ∃ y7, σ = [some (.ref o), some (.int turns), s2, s3, s4, some (.ref fo), s6, y7, s8, s9, some (.ref La2.p), some (.ref Lb5.p), s12, some (.ref ga), s14] ∧ Duo K C n N F H0 H8 o nn fo as S La2 T' Lb5 T5) ⟨_, rfl, d9⟩ ?_ ?_
  · rintro σ H8 ⟨y7, rfl, d⟩
    clear d9 hga7
    refine ⟨_, rfl, _, _, _, rfl, d.ta.ins, La2, T', rfl, d.ta, fun ka H9 s9 nk hka => ?_⟩
    have d1 := d.same s9
    refine ⟨_, rfl, _, rfl, Lb5, T5, fo, n, N, F, rfl, d1.tb, l5, d1.forms, fun H10 s10 => ⟨_, rfl, iteF ?_⟩⟩
    have d2 := d1.same s10
    refine ⟨_, rfl, _, _, _, rfl, d2.ta.ins, La2, T', rfl, d2.ta, fun kb H11 s11 nk2 hkb => ⟨_, rfl, _, _, .tup (SqT.of hkb) (dp_ints _), .tup (SqT.of ((s10.trans s11) _ _ hka)) (dp_ints _), shaped_intsT _, shaped_intsT _, ?_⟩⟩
    rw [show PyData.eqv (.tuple ((srt T'.basis).map PyData.int)) (.tuple ((srt T'.basis).map PyData.int)) = true from by simp only [PyData.eqv, eqv_ints]; simp]
    refine ⟨_, rfl, iteF ?_⟩
    dsimp only [tNext]
    have d3 := d2.same s11
    refine ⟨_, rfl, _, rfl, o, nn, La2, T', n, N, F, rfl, d3.hh, d3.ta, l2, d3.wa, d3.tabs, fun L1 T1 H12 k12 w12 t12 lt12 hh12 ts12 => ⟨_, rfl, iteT ?_⟩⟩
    obtain ⟨La4, e6, e7, d4⟩ := d3.step k12 w12 t12 hh12 ts12
    rw [← e7]
    refine ⟨_, rfl, _, rfl, o, nn, Lb5, T5, n, N, F, rfl, d4.hh, d4.tb, l5, d4.wb, d4.tabs, fun L2' T2 H13 k13 w13 t13 lt13 hh13 ts13 => ⟨_, rfl, iteT ?_⟩⟩
    obtain ⟨Lb4, e8, e9, d5⟩ := d4.swap.step k13 w13 t13 hh13 ts13
    have d6 := d5.swap
    refine ⟨_, rfl, _, rfl, o, nn, La4, T1, n, N, F, rfl, d6.hh, d6.ta, lt12, d6.wa, d6.tabs, fun H14 k14 hh14 ts14 => ?_⟩
    exact h H14 (fun b u e nb nt => k14 b u (d6.far b u e nb nt) nb nt) hh14 ts14
  · rintro rfl D' hn
    exact world_rows hg1 d9 l2 l5 (hb rfl) hga7 fun y7 H' d => hn _ _ ⟨y7, rfl, d⟩
end
end K24
/-! K24WR: _law_world_right. -/
namespace K24
open PySem PySem.Spec PyProof.Rows L2 LamX
theorem r65 {k : Nat} {A : Around} (r : Room k A) : A.units + 65 < cLine := by have := r.un; omega
theorem call_listK {X : Cx} : CallR X (.type "list") (rListK X.K) := call_list_of
theorem RowAt.keep {K : PySem.W.Frag} {H H' : Hp} {fp : List Addr} {ra : Addr} {cs : List Int} {eq : Bool} {b : Int} (r : RowAt K H ra cs eq b) (k : Keep fp H H') (w : ∀ b ∈ fp, Wr H b) : RowAt K H' ra cs eq b := by
  obtain ⟨ca, h1, h2⟩ := r
  exact ⟨ca, keep_tup k w h1, keep_tup k w h2⟩
theorem RowAt.same {K : PySem.W.Frag} {H H' : Hp} {ra : Addr} {cs : List Int} {eq : Bool} {b : Int} (r : RowAt K H ra cs eq b) (s : Same H H') : RowAt K H' ra cs eq b := by
  obtain ⟨ca, h1, h2⟩ := r
  exact ⟨ca, same_tup s h1, same_tup s h2⟩
theorem BoxAt.same {K : PySem.W.Frag} {H H' : Hp} {a : Addr} {bs : List (Int × Int)} (h : BoxAt K H a bs) (s : Same H H') : BoxAt K H' a bs := by
  obtain ⟨as, h1, h2⟩ := h
  exact ⟨as, same_tup s h1, pimp h2 fun a b q => same_tup s q⟩
theorem paired_take {α β : Type} {R : α → β → Prop} : ∀ (k : Nat) {l : List α} {m : List β}, Paired R l m → Paired R (l.take k) (m.take k)
  | 0, _, _, _ => by rw [List.take_zero, List.take_zero]; exact .nil
  | k + 1, _, _, .nil => .nil
  | k + 1, _, _, .cons a t => .cons a (paired_take k t)
theorem no_part {σ : L2.St} {H : Hp} {Q : Option Int → Hp → Prop} (h : Q none H) : tNoPart σ H Q := h
abbrev wrN : List Str := ["_law_heap_here", "_law_turns", "_law_size", "_law_rows", "_law_turn", "_law_forms", "_law_at", "_law_place", "_law_row_here", "_law_box", "_law_one", "_law_other", "_law_side", "_law_goal", "_law_kept"]
def wrSc : Scope := ⟨.function, [((".0" : Str), NameKind.local), (("_law_place" : Str), NameKind.cell), (("range" : Str), NameKind.globalImplicit), (("_law_size" : Str), NameKind.cell)], false, false, []⟩
section
variable {P : Program} {w : World} {K : PySem.W.Frag} {mg : Str → Option Value} {base : Heap} {f : Addr} {fd : FuncData} {cI cR C : Addr}
structure DWr (P : Program) (w : World) (K : PySem.W.Frag) (mg : Str → Option Value) (base : Heap) (C cR : Addr) (g : List Value → List Value → List Value) (gV : List V → List V → List V) (T : List (Addr × Str)) : Prop where
  law_pick : Dn P w K mg base "_law_pick" 2 ["_law_heap_here", "_law_some"] (spPick K)
  law_draw : Dn P w K mg base "_law_draw" 1 ["_law_heap_here", "_law_many"] (spDraw ())
  law_row : Dn P w K mg base "_law_row" 3 ["_law_heap_here", "_law_size"] (spRow K)
  Tableau : Dk P w K mg base "Tableau" C 3 ["self", "rows", "box"] (spInit K C)
  add_row : Dm P w K mg base C "add_row" 2 ["self", "row"] (spAdd K C)
  put_end : Dm P w K mg base C "put_end" 4 ["self", "place", "side", "value"] (spPut K C)
  law_wander : Dn P w K mg base "_law_wander" 6 ["_law_heap_here", "_law_table", "_law_turns"] (spWander K C)
  law_entries_right : DnG P w K mg base "_law_entries_right" 7 ["_law_table", "_law_forms"] (spERight K C)
  basis : Dp P w K mg base C "basis" 1 (spKeys K C Tab.basis)
  law_led : Dn P w K mg base "_law_led" 6 ["_law_table", "_law_goal"] (spLed K C)
  row_at : Dm P w K mg base C "row_at" 3 ["self", "place"] (spRowAt K C cR)
  row_atK : Dmk P w K mg base C "row_at" 3 ["self", "place"] ["place"] g gV (spRowAt K C cR)
  law_back_right : DnG P w K mg base "_law_back_right" 8 ["_law_heap_here", "_law_table"] (spBack K C T)
  law_refusals_right : DnG P w K mg base "_law_refusals_right" 8 ["_law_heap_here", "_law_table"] (spRefuse K C T)
def spWorld (K : PySem.W.Frag) (T : List (Addr × Str)) : Sp := fun vs H Q _ => ∃ o nn turns, vs = [.ref o, .int turns] ∧ HeapAt H o nn ∧ 0 ≤ turns ∧ turns ≤ 100 ∧ Tabs T H ∧
  ∀ H', KeepN [o, nn] H H' → HeapAt H' o nn → Tabs T H' → Q (.bl true) H'
theorem ok_l_world_right {g : List Value → List Value → List Value} {gV : List V → List V → List V} {T : List (Addr × Str)} (F0 : Fun K "_law_world_right" "_law_world_right" s_l_world_right f fd) (tc : TC K C) (Z : Bz mg) (hg1 : ∀ x y, gV [x] [y] = [x, y]) (D : DWr P w K mg base C cR g gV T) :
    FnG P w K mg base (L2.CX P w) 9 f fd ["_law_heap_here", "_law_turns"] (spWorld K T) := by
  refine okG F0 sc_l_world_right (fun vs H Q E h => ?_) (fun cdv A outer s H vs Q E hr hgd h => ?_)
  · obtain ⟨o, nn, turns, rfl, _⟩ := h
    rfl
  · obtain ⟨o, nn, turns, rfl, hh, u0, u1, hT, h⟩ := h
    have nd := sc_l_world_right.nd
    have hu := hu_of hr
    refine ⟨_, (pss_cons (ps_set (i := 2) nd rfl (by first | exact Or.inl rfl | exact Or.inr rfl) (pe_dn D.law_pick (hr.mono (by decide)) rfl passL (pa_cons (pv 0) (pa_cons (pe_lst (pa_cons pe_int (pa_cons pe_int (pa_cons pe_int (pa_cons pe_int (pa_cons pe_int pa_nil)))))) pa_nil))))
      (pss_cons (ps_set (i := 3) nd rfl (by first | exact Or.inl rfl | exact Or.inr rfl) (pe_tupleOf rfl Z.tuple_ (pe_lc (own := [("_law_turn", 4)]) rfl nd (pi_range1 rfl Z.range_ (pa_cons (pe_op op_add pe_int (pe_dn D.law_draw (hr.mono (by decide)) rfl passL (pa_cons (pv 0) (pa_cons (pe_op op_add pe_int (pe_callTy call_int1 rfl Z.int_ (by decide +kernel) (pa_cons (pe_cmpR op_lt (pv 2) pe_int (nomark _)) pa_nil))) pa_nil)))) pa_nil)) (blkOk_by (N := ["_law_heap_here", "_law_turns", "_law_size", "_law_rows", "_law_turn", "_law_forms", "_law_at", "_law_place", "_law_row_here", "_law_box", "_law_one", "_law_other", "_law_side", "_law_goal", "_law_kept"]) (sc := defScope s_l_world_right) (by decide +kernel)) (fun _ _ _ _ _ => (pg_name (i := 4) nd rfl (by first | exact Or.inl rfl | exact Or.inr rfl))) (fun _ _ _ _ _ => pts_nil) (fun _ _ _ _ _ => (pe_dn D.law_row (hr.mono (by decide)) rfl passL (pa_cons (pv 0) (pa_cons (pv 2) pa_nil)))))))
      (pss_cons (ps_set (i := 5) nd rfl (by first | exact Or.inl rfl | exact Or.inr rfl) (pe_op op_cat (pe_lc (own := [("_law_place", 7)]) rfl nd (pi_range1 rfl Z.range_ (pa_cons (pv 2) pa_nil)) (blkOk_by (N := ["_law_heap_here", "_law_turns", "_law_size", "_law_rows", "_law_turn", "_law_forms", "_law_at", "_law_place", "_law_row_here", "_law_box", "_law_one", "_law_other", "_law_side", "_law_goal", "_law_kept"]) (sc := defScope s_l_world_right) (by decide +kernel)) (fun _ _ _ _ _ => (pg_name (i := 7) nd rfl (by first | exact Or.inl rfl | exact Or.inr rfl))) (fun _ _ _ _ _ => pts_nil) (fun _ _ _ _ _ => (pe_lc (own := [("_law_at", 6)]) rfl nd (pi_range1 rfl Z.range_ (pa_cons (pv 2) pa_nil)) (blkOk_by (N := wrN) (sc := wrSc) (by decide +kernel)) (fun _ _ _ _ _ => (pg_name (i := 6) nd rfl (by first | exact Or.inl rfl | exact Or.inr rfl))) (fun _ _ _ _ _ => pts_nil) (fun _ _ _ _ _ => (pe_callTy call_int1 rfl Z.int_ (by decide +kernel) (pa_cons (pe_cmpR op_eq (pv 6) (pv 7) (nomark _)) pa_nil)))))) (pe_lc (own := [("_law_row_here", 8)]) rfl nd (pi_tupK (K := K) (pv 3) (by rfl)) (blkOk_by (N := ["_law_heap_here", "_law_turns", "_law_size", "_law_rows", "_law_turn", "_law_forms", "_law_at", "_law_place", "_law_row_here", "_law_box", "_law_one", "_law_other", "_law_side", "_law_goal", "_law_kept"]) (sc := defScope s_l_world_right) (by decide +kernel)) (fun _ _ _ _ _ => (pg_name (i := 8) nd rfl (by first | exact Or.inl rfl | exact Or.inr rfl))) (fun _ _ _ _ _ => pts_nil) (fun _ _ _ _ _ => (pe_callTy (r := rListK K) call_listK rfl Z.list_ (by decide +kernel) (pa_cons (pe_ix (r := rIxT K) ix_tup (pv 8) pe_int (fun _ _ => rfl)) pa_nil))))))
      (pss_cons (ps_set (i := 9) nd rfl (by first | exact Or.inl rfl | exact Or.inr rfl) (pe_op op_repA (pe_tup (pa_cons (pe_tup (pa_cons (pe_op op_sub pe_int pe_int) (pa_cons pe_int pa_nil))) pa_nil)) (pv 2)))
      (pss_cons (ps_par (i := 10) (j := 11) rfl nd rfl rfl (by decide) rfl rfl (pa_cons (pe_dk D.Tableau (hr.mono (by decide)) rfl (pa_cons (pv 3) (pa_cons (pv 9) pa_nil))) (pa_cons (pe_dk D.Tableau (hr.mono (by decide)) rfl (pa_cons (pe_slice (r := rSlA K) sl_tupA (pv 3) po_none (po_some pe_int)) (pa_cons (pv 9) pa_nil))) pa_nil)) (by rfl))
      (pss_cons (ps_for (passes_of rfl) rfl (pi_tupK (K := K) (pe_slice (r := rSlA K) sl_tupA (pv 3) (po_some pe_int) po_none) (by rfl)) (pg_name (i := 8) nd rfl (by first | exact Or.inl rfl | exact Or.inr rfl)) (pss_one (ps_expr (pe_dm (pv 11) D.add_row (hr.mono (by decide)) passL (pa_cons (pv 8) pa_nil)))))
      (pss_cons (ps_for (passes_of rfl) rfl (pi_range1 rfl Z.range_ (pa_cons (pe_callB call_len_seq rfl Z.len_ PySem.boot_len (pa_cons (pv 5) pa_nil)) pa_nil)) (pg_name (i := 7) nd rfl (by first | exact Or.inl rfl | exact Or.inr rfl)) (pss_one (ps_for (passes_of rfl) rfl (pi_list (pe_lst (pa_cons pe_int (pa_cons pe_int pa_nil)))) (pg_name (i := 12) nd rfl (by first | exact Or.inl rfl | exact Or.inr rfl)) (pss_cons (ps_expr (pe_dm (pv 10) D.put_end (hr.mono (by decide)) passL (pa_cons (pv 7) (pa_cons (pv 12) (pa_cons pe_non pa_nil)))))
      (pss_one (ps_expr (pe_dm (pv 11) D.put_end (hr.mono (by decide)) passL (pa_cons (pv 7) (pa_cons (pv 12) (pa_cons pe_non pa_nil))))))))))
      (pss_cons (ps_expr (pe_dn D.law_wander (hr.mono (by decide)) rfl passL (pa_cons (pv 0) (pa_cons (pv 10) (pa_cons (pv 1) pa_nil)))))
      (pss_cons (ps_expr (pe_dn D.law_wander (hr.mono (by decide)) rfl passL (pa_cons (pv 0) (pa_cons (pv 11) (pa_cons pe_int pa_nil)))))
      (pss_cons (ps_if (PW.pt (pw_or (pt_not (pt_val (pe_dnG D.law_entries_right (hr.mono (by decide)) hgd rfl passL (pa_cons (pv 10) (pa_cons (pv 5) pa_nil))))) (pw_or1 (pt_not (pt_val (pe_dnG D.law_entries_right (hr.mono (by decide)) hgd rfl passL (pa_cons (pv 11) (pa_cons (pv 5) pa_nil)))))))) (pss_one (ps_ret pe_bl)) pss_nil)
      (pss_cons (ps_set (i := 13) nd rfl (by first | exact Or.inl rfl | exact Or.inr rfl) (pe_dp (pv 10) D.basis (hr.mono (by decide))))
      (pss_cons (ps_if (pt_val (pe_dn D.law_led (hr.mono (by decide)) rfl passL (pa_cons (pv 11) (pa_cons (pv 13) pa_nil)))) (pss_one (ps_for (passes_of rfl) rfl (pi_tupK (K := K) (pv 13) (by rfl)) (pg_name (i := 7) nd rfl (by first | exact Or.inl rfl | exact Or.inr rfl)) (pss_one (ps_if (pt_cmpR (op_neDD (r65 hr)) (pe_dmk (pv 11) D.row_atK (hr.mono (by decide)) passL (pk_cons (pv 7) pk_nil)) (pe_dm (pv 10) D.row_at (hr.mono (by decide)) passL (pa_cons (pv 7) pa_nil)) (nomark _)) (pss_one (ps_ret pe_bl)) pss_nil)))) pss_nil)
      (pss_cons (ps_set (i := 14) nd rfl (by first | exact Or.inl rfl | exact Or.inr rfl) (pe_dp (pv 10) D.basis (hr.mono (by decide))))
      (pss_cons (ps_if (PW.pt (pw_or (pt_not (pt_val (pe_dnG D.law_entries_right (hr.mono (by decide)) hgd rfl passL (pa_cons (pv 11) (pa_cons (pv 5) pa_nil))))) (pw_or1 (pt_cmpR (op_neD hr.units) (pe_dp (pv 10) D.basis (hr.mono (by decide))) (pv 14) (nomark _))))) (pss_one (ps_ret pe_bl)) pss_nil)
      (pss_one (ps_ret (pe_and (pe_dnG D.law_back_right (hr.mono (by decide)) hgd rfl passL (pa_cons (pv 0) (pa_cons (pv 10) pa_nil))) (pe_and (pe_dnG D.law_back_right (hr.mono (by decide)) hgd rfl passL (pa_cons (pv 0) (pa_cons (pv 11) pa_nil))) (pe_one (pe_dnG D.law_refusals_right (hr.mono (by decide)) hgd rfl passL (pa_cons (pv 0) (pa_cons (pv 10) pa_nil)))))))))))))))))))))), ?_⟩
    refine ⟨_, rfl, (by show 5 ≤ sizeLine; decide), fun pl hpl => ?_⟩
    have hh1 := hh.same (same_new (o := .lst [.int 2, .int 3, .int 2, .int 1, .int 4]) hpl)
    have out := heap_out hh hpl
    refine ⟨o, nn, pl, [2, 3, 2, 1, 4], rfl, hh1, .inr upd_same, (fun e => out (by rw [e]; simp)), (fun e => out (by rw [e]; simp)), (by decide), (by decide), fun size H1 k1 hh2 hm => ?_⟩
    have T1 := tabs_keep (tabs_same hT (same_new (o := .lst [.int 2, .int 3, .int 2, .int 1, .int 4]) hpl)) k1 hh1.wr
    have k1' : Keep [o, nn] H H1 := fun b u eb nb => k1 b u ((same_new hpl) b u eb) nb
    obtain ⟨n, rfl, n1, n4⟩ : ∃ n : Nat, size = (n : Int) ∧ 1 ≤ n ∧ n ≤ 4 := by
      simp only [List.mem_cons, List.not_mem_nil, or_false] at hm
      exact ⟨size.toNat, by omega, by omega, by omega⟩
    clear hm k1 hh1
    refine ⟨_, rfl, _, rfl, _, _, rfl, rfl, .inr ⟨_, rfl, _, _, rfl, rfl, ?_⟩⟩
    obtain ⟨e, he, e0, e1, e4⟩ : ∃ e : Int, (if decide ((n : Int) < 4) = true then (1 : Int) else 0) = e ∧ 0 ≤ e ∧ e ≤ 1 ∧ (e = 1 → n < 4) := ⟨_, rfl, by split <;> decide, by split <;> decide, fun z => by
      by_cases q : (n : Int) < 4
      · omega
      · rw [decide_eq_false q] at z
        exact absurd z (by decide)⟩
    rw [he]
    refine ⟨o, nn, _, rfl, hh2, by omega, by omega, fun r H2 k2 hh3 r0 r1 => ⟨_, _, rfl, rfl, 1 + r, rfl, by omega, by omega, fun D hD => ?_⟩⟩
    have T2 := tabs_keep T1 k2 hh2.wr
    have k2' : Keep [o, nn] H H2 := keep_trans k1' k2
    have hDH : H D = none := free_keep k2' hD (heap_out hh3 hD)
    obtain ⟨m, hm, m1, m7⟩ : ∃ m : Nat, (1 + r).toNat = m ∧ 1 ≤ m ∧ n + m ≤ 7 := ⟨_, rfl, by omega, by omega⟩
    rw [hm]
    refine lc_range (lo := 0) (n := m) (fun i H' => Keep [o, nn] H H' ∧ HeapAt H' o nn ∧ Tabs T H' ∧ D ∉ [o, nn] ∧ ∃ (ras : List Addr) (rs : List Row), H' D = some (.lst (ras.map V.ref)) ∧ ras.length = i ∧ Paired (fun a r => RowAt K H' a r.1 r.2.1 r.2.2) ras rs ∧ ∀ r ∈ rs, r.1.length = n ∧ (∀ x ∈ r.1, x.natAbs ≤ 1000000) ∧ r.2.2.natAbs ≤ 6) ?_ ?_ ?_
    · exact ⟨keep_new k2' hD, hh3.same (same_new hD), tabs_same T2 (same_new hD), heap_out hh3 hD, [], [], upd_same, rfl, .nil, fun x hx => nomatch hx⟩
    · rintro i H' hi ⟨k3, hh4, T3, nD, ras, rs, f1, f2, f3, f4⟩
      refine ⟨rfl, ?_⟩
      refine iteT (B := Keep [o, nn] H H' ∧ HeapAt H' o nn ∧ Tabs T H' ∧ D ∉ [o, nn] ∧ ∃ (ras : List Addr) (rs : List Row), H' D = some (.lst (ras.map V.ref)) ∧ ras.length = i + 1 ∧ Paired (fun a r => RowAt K H' a r.1 r.2.1 r.2.2) ras rs ∧ ∀ r ∈ rs, r.1.length = n ∧ (∀ x ∈ r.1, x.natAbs ≤ 1000000) ∧ r.2.2.natAbs ≤ 6) ?_
      refine ⟨_, rfl, _, rfl, o, nn, n, rfl, hh4, by omega, by omega, fun ra cs eq b H3 k4 hh5 rat g1 g2 g3 => ?_⟩
      have f5 := k4 _ _ f1 nD
      refine ⟨_, f5, ?_, fun b u eb nb => ?_, hh5.keep (keep_one _ _ _) (fun z => nD (by rw [← List.mem_singleton.mp z]; simp)) (fun z => nD (by rw [← List.mem_singleton.mp z]; simp)), ?_, nD, ras ++ [ra], rs ++ [(cs, eq, b)], ?_, ?_, ?_, ?_⟩
      · rw [List.length_map, f2]
        exact Nat.lt_of_le_of_lt (by omega : i ≤ 7) (by decide)
      · rw [upd_ne (ne_of_none eb hDH)]
        exact k4 _ _ (k3 b u eb nb) nb
      · exact tabs_keep (tabs_keep T3 k4 hh4.wr) (keep_one _ _ _) (wr_lst f5)
      · rw [upd_same, List.map_append]
        rfl
      · rw [List.length_append, f2]
        rfl
      · refine Paired.snoc (pimp f3 fun a r q => ?_) ?_
        · exact (q.keep k4 hh4.wr).keep (keep_one _ _ _) (wr_lst f5)
        · exact rat.keep (keep_one _ _ _) (wr_lst f5)
      · intro x hx
        rcases List.mem_append.mp hx with hx | hx
        · exact f4 x hx
        · rw [List.mem_singleton.mp hx]
          exact ⟨by show cs.length = n; omega, g2, g3⟩
    · rintro H3 ⟨k3, hh4, T3, nD, ras, rs, f1, f2, f3, f4⟩
      refine .inl ⟨D, _, rfl, SqL.of f1, fun rt hrt => ?_⟩
      have sF := same_new (o := .tup (ras.map V.ref)) hrt
      obtain ⟨H4, hH4, x4, s4⟩ : ∃ H4, upd H3 rt (.tup (ras.map V.ref)) = H4 ∧ SqT K H4 rt (ras.map V.ref) ∧ Same H3 H4 := ⟨_, rfl, SqT.of upd_same, sF⟩
      rw [hH4]
      clear hH4 sF
      have hh5 := hh4.same s4
      have T4 := tabs_same T3 s4
      have k4 : Keep [o, nn] H H4 := fun b u eb nb => s4 _ _ (k3 b u eb nb)
      have p4 : Paired (fun a r => RowAt K H4 a r.1 r.2.1 r.2.2) ras rs := pimp f3 fun a r q => q.same s4
      have lr : rs.length = m := by rw [← Paired.length f3, f2]
      clear k3 T3 hh4 f3 hh2 hh3 T1 T2 k1' k2' k2 hD hDH
      refine seq_asg (forms_made n4 x4 p4 (by omega) (fun r hr => (f4 r hr).1) fun fo as H5 s5 hfo e5 l5 g5 => ?_)
      have hh6 := hh5.same s5
      have T5 := tabs_same T4 s5
      have k5 : Keep [o, nn] H H5 := fun b u eb nb => s5 _ _ (k4 b u eb nb)
      have x5 := same_tup s5 x4
      have p5 : Paired (fun a r => RowAt K H5 a r.1 r.2.1 r.2.2) ras rs := pimp p4 fun a r q => q.same s5
      have fo5 : ∀ b, b = fo ∨ b ∈ as → b ≠ o ∧ b ≠ nn := fun b hb => by
        have hb4 : H4 b = none := by
          rcases hb with rfl | hb
          · exact hfo
          · obtain ⟨i, hi, e⟩ := List.mem_iff_getElem.mp hb
            exact (g5 i b (by rw [List.getElem?_eq_getElem hi, e])).1
        have := heap_out hh5 hb4
        simp only [List.mem_cons, List.not_mem_nil, or_false, not_or] at this
        exact this
      have g6 : ∀ (i : Nat) (a : Addr), as[i]? = some a → H5 a = some (.lst (lineV (List.range n) (formF n rs i))) := fun i a e => (g5 i a e).2
      clear g5 hfo x4 p4 k4 T4 hh5 s5
      refine seq_asg (box_made n1 n4 rfl fun ba H6 s6 hba => ?_)
      obtain ⟨bs, hbs, lbs⟩ : ∃ bs : List (Int × Int), List.replicate n ((-9 : Int), (9 : Int)) = bs ∧ bs.length = n := ⟨_, rfl, List.length_replicate⟩
      have bb : ∀ b ∈ bs, b = (-9, 9) := fun b hb => by rw [← hbs] at hb; exact List.eq_of_mem_replicate hb
      rw [hbs] at hba
      have io : ∀ r0 : List Row, (∀ r ∈ r0, r ∈ rs) → r0.length ≤ m → InitOk bs r0 := fun r0 hr hl => ⟨by omega, fun b hb => by
        rw [bb b hb]
        exact ⟨Nat.lt_of_lt_of_le (by decide : (-9 : Int).natAbs < 2 ^ 5) (Nat.pow_le_pow_right (by decide) (by decide)), Nat.lt_of_lt_of_le (by decide : (9 : Int).natAbs < 2 ^ 5) (Nat.pow_le_pow_right (by decide) (by decide))⟩, fun r h => ⟨by rw [lbs]; exact (f4 r (hr r h)).1, fun x hx => Nat.lt_of_le_of_lt ((f4 r (hr r h)).2.1 x hx) (Nat.lt_of_lt_of_le (by decide : 1000000 < 2 ^ 20) (Nat.pow_le_pow_right (by decide) (by decide)))⟩⟩
      have x6 := same_tup s6 x5
      have p6 : Paired (fun a r => RowAt K H6 a r.1 r.2.1 r.2.2) ras rs := pimp p5 fun a r q => q.same s6
      show tSeq _ _ _ _ _
      refine ⟨_, rfl, _, rfl, fun x dx hx hdx ndx => ?_⟩
      have sx := (same_new (o := .own x) hdx).trans (same_new (o := .ins C dx []) (by rw [upd_ne (Ne.symm ndx)]; exact hx))
      refine ⟨x, rt, ba, dx, bs, rs, rfl, upd_same, hba.same sx, ⟨ras, same_tup sx x6, pimp p6 fun a r q => q.same sx⟩, io rs (fun r hr => hr) (by omega), fun La H7 eLa ka fa ra ta => ⟨rfl, ?_⟩⟩
      have s7 : Same H6 H7 := made_same hx hdx ka
      refine ⟨_, rfl, 1, rfl, sl_go (same_tup s7 x6) fun r1 H8 s8 hr1 => ?_⟩
      rw [cut_first, ← List.map_take] at hr1
      have s68 := s7.trans s8
      refine ⟨_, rfl, fun y dy hy hdy ndy => ?_⟩
      have sy := (same_new (o := .own y) hdy).trans (same_new (o := .ins C dy []) (by rw [upd_ne (Ne.symm ndy)]; exact hy))
      have p8 : Paired (fun a r => RowAt K H8 a r.1 r.2.1 r.2.2) ras rs := pimp p6 fun a r q => q.same s68
      refine ⟨y, r1, ba, dy, bs, rs.take 1, rfl, upd_same, (hba.same s68).same sy, ⟨ras.take 1, same_tup sy hr1, paired_take 1 (pimp p8 fun a r q => q.same sy)⟩, io (rs.take 1) (fun r hr => List.mem_of_mem_take hr) (by rw [List.length_take]; omega), fun Lb H9 eLb kb fb rb tb => ⟨rfl, _, _, rfl, ?_⟩⟩
      have s9 : Same H8 H9 := made_same hy hdy kb
      have k6 : Keep [o, nn] H H6 := fun b u eb nb => s6 _ _ (k5 b u eb nb)
      obtain ⟨La0, Lb0, ea, eb, d0⟩ := duo_init (n := n) (N := n + m) (F := formF n rs) k6 (hh6.same s6) (tabs_same T5 s6) (s6 _ _ e5) (by rw [l5, lr]) (fun i a e => s6 _ _ (g6 i a e)) fo5 hx hdx ka fa ra ta s8 hy hdy kb fb rb tb
      have x9 := same_tup s9 (same_tup s8 (same_tup s7 x6))
      have p9 : Paired (fun a r => RowAt K H9 a r.1 r.2.1 r.2.2) ras rs := pimp p8 fun a r q => q.same s9
      rw [← eLa, ← ea, ← eLb, ← eb]
      clear ka fa ra ta kb fb rb tb ea eb eLa eLb x6 p6 p8 sx sy s9 s8 s7 s68 x5 p5 hba hx hdx hy hdy ndx ndy hr1 k6 k5 s6 T5 hh6 e5 l5 g6 fo5
      have rb7 : ∀ r ∈ rs, ∀ x ∈ r.1, x.natAbs < 2 ^ 700 := fun r h x hx => Nat.lt_of_le_of_lt ((f4 r h).2.1 x hx) (Nat.lt_of_lt_of_le (by decide : 1000000 < 2 ^ 20) (Nat.pow_le_pow_right (by decide) (by decide)))
      have few : ∀ k, bs.length + (rs.take k).length ≤ 20 := fun k => by
        rw [List.length_take]
        omega
      have lras : ras.length = m := f2
      refine ⟨_, rfl, 1, rfl, ?_⟩
      refine no_part ?_
      refine sl_go x9 fun r2 H10 s10 hr2 => ?_
      rw [cut_rest, ← List.map_drop] at hr2
      have x10 := same_tup s10 x9
      have p10 : Paired (fun a r => RowAt K H10 a r.1 r.2.1 r.2.2) ras rs := pimp p9 fun a r q => q.same s10
      have d10 := d0.same s10
      clear d0 x9 p9 s10
      refine ⟨r2, rfl, ⟨_, hr2⟩, ?_⟩
      refine for_tup (K := K) (xs := (ras.drop 1).map V.ref) (fun i σ H' => ∃ (Lb : Lay) (x8 : Option V), Lb.p = Lb0.p ∧ σ = [some (.ref o), some (.int turns), some (.int n), some (.ref rt), none, some (.ref fo), none, none, x8, some (.ref ba), some (.ref La0.p), some (.ref Lb.p), none, none, none] ∧
        Duo K C n (n + m) (formF n rs) H H' o nn fo as T La0 (initT bs rs) Lb (initT bs (rs.take (1 + i))) ∧ SqT K H' r2 ((ras.drop 1).map V.ref) ∧ Paired (fun a r => RowAt K H' a r.1 r.2.1 r.2.2) ras rs) ?_ ?_ ?_ ?_
      · exact ⟨Lb0, _, rfl, rfl, d10, hr2, p10⟩
      · rintro i σ H' _ ⟨_, _, _, _, _, q, _⟩
        exact q
      · rintro i x σ H' hx ⟨Lb, x8, eL, rfl, d, q, pr⟩
        rw [List.getElem?_map, List.getElem?_drop] at hx
        obtain ⟨a, ha, rfl⟩ : ∃ a, ras[1 + i]? = some a ∧ V.ref a = x := by
          cases e : ras[1 + i]? with
          | none => rw [e] at hx; cases hx
          | some y => rw [e] at hx; exact ⟨y, rfl, Option.some.inj hx⟩
        obtain ⟨r, hrr, rat⟩ := paired_nth pr ha
        have st := start_rows (bs := bs) (r0 := rs.take (1 + i)) (few _) fun r h => rb7 r (List.mem_of_mem_take h)
        refine ⟨_, rfl, Lb.p, _, _, rfl, d.tb.ins, rfl, _, rfl, Lb, _, a, _, _, _, rfl, d.tb, st.ok, rat, ?_, rb7 r (List.mem_of_getElem? hrr), fun L' H1 k1 g1 t1 => ?_⟩
        · rw [st.cols, lbs, (f4 r (List.mem_of_getElem? hrr)).1]
        · obtain ⟨L2, e2, d2⟩ := d.swap.stepG k1 g1 t1
          refine ⟨L2, some (.ref a), e2.trans eL, (by rw [e2]; rfl), ?_, keep_tup k1 d.tb.wr q, pimp pr fun a r z => z.keep k1 d.tb.wr⟩
          have d3 := d2.swap
          have e3 : addT (initT bs (rs.take (1 + i))) r.1 r.2.1 r.2.2 = initT bs (rs.take (1 + (i + 1))) := by
            rw [show 1 + (i + 1) = 1 + i + 1 by omega, take_snoc hrr]
            unfold initT
            rw [rowsT_snoc]
          rw [e3] at d3
          exact d3
      · rintro σ H' ⟨Lb, x8, eL, rfl, d, q, pr⟩
        rw [List.length_map, List.length_drop, show 1 + (ras.length - 1) = rs.length by omega, List.take_length] at d
        clear q pr
        have st := start_rows (bs := bs) (r0 := rs) (by omega) rb7
        have en := init_ends (bs := bs) (r0 := rs) bb (by omega) fun r h => ⟨rb7 r h, (f4 r h).2.2⟩
        obtain ⟨T0, hT0, lg0⟩ : ∃ T0, initT bs rs = T0 ∧ T0.log = 0 := ⟨_, rfl, init_log bs rs⟩
        rw [hT0] at st en d
        rw [lbs] at st
        have lenN : T0.spans.length = n + m := by rw [st.len, lr]
        have mk : ∀ {T : Tab}, Giv T0 (n + m) 0 T → LawT n (n + m) (formF n rs) T := fun {T} g => by
          have := (st.kin g.kin).law n1 n4 (by omega) (fun z => by rw [z, List.length_nil] at lr; omega) (fun r h => ⟨(f4 r h).1, (f4 r h).2.1⟩) (fun c hc => g.zero c (by rw [← g.kin.cols]; exact hc)) (fun i hi => g.lo i (by omega))
          rw [lr] at this
          exact this
        refine ⟨_, rfl, fo, _, rfl, .inl (SqL.of d.fe), _, rfl, ?_⟩
        rw [List.length_map, d.fl]
        refine ⟨by omega, by omega, for_range (lo := 0) (n := n + m) (fun p σ H' => ∃ (La Lb : Lay) (Ta Tb : Tab) (x7 x8 x12 : Option V), σ = [some (.ref o), some (.int turns), some (.int n), some (.ref rt), none, some (.ref fo), none, x7, x8, some (.ref ba), some (.ref La.p), some (.ref Lb.p), x12, none, none] ∧
          Duo K C n (n + m) (formF n rs) H H' o nn fo as T La Ta Lb Tb ∧ Giv T0 p 0 Ta ∧ Giv T0 p 0 Tb) ?_ ?_ ?_⟩
        · exact ⟨La0, Lb, _, _, _, _, _, rfl, d, Giv.start en lg0, Giv.start en lg0⟩
        · rintro p σ H' hp ⟨La, Lb, Ta, Tb, x7, x8, x12, rfl, d, ga, gb⟩
          rw [show (0 : Int) + (p : Int) = p by omega]
          refine ⟨(by show 2 ≤ sizeLine; decide), fun l hl => ⟨l, rfl, ⟨_, SqL.of upd_same⟩, ?_⟩⟩
          have sl := same_new (o := .lst [.int 0, .int 1]) hl
          obtain ⟨H1, hH1, xl⟩ : ∃ H1, upd H' l (.lst [.int 0, .int 1]) = H1 ∧ H1 l = some (.lst [.int 0, .int 1]) := ⟨_, rfl, upd_same⟩
          rw [hH1] at sl ⊢
          clear hH1
          have nla : l ∉ La.fp := fun z => wr_live (d.ta.wr l z) hl
          have nlb : l ∉ Lb.fp := fun z => wr_live (d.tb.wr l z) hl
          have d1 := d.same sl
          refine for_list (K := K) (xs := [.int 0, .int 1]) (fun j σ H2 => ∃ (L1 L2 : Lay) (Ta Tb : Tab) (x12 : Option V), σ = [some (.ref o), some (.int turns), some (.int n), some (.ref rt), none, some (.ref fo), none, some (.int p), x8, some (.ref ba), some (.ref L1.p), some (.ref L2.p), x12, none, none] ∧
            L1.fp = La.fp ∧ L2.fp = Lb.fp ∧ H2 l = some (.lst [.int 0, .int 1]) ∧ Duo K C n (n + m) (formF n rs) H H2 o nn fo as T L1 Ta L2 Tb ∧ Giv T0 p j Ta ∧ Giv T0 p j Tb) ?_ ?_ ?_ ?_
          · exact ⟨La, Lb, Ta, Tb, _, rfl, rfl, rfl, xl, d1, ga, gb⟩
          · rintro j σ H2 _ ⟨_, _, _, _, _, _, _, _, q, _⟩
            exact SqL.of q
          · rintro j x σ H2 hj ⟨L1, L2, T1, T2, x12, rfl, q1, q2, q3, d2, g1, g2⟩
            obtain ⟨hj2, rfl⟩ : j < 2 ∧ V.int j = x := by
              match j, hj with
              | 0, hj => exact ⟨by decide, Option.some.inj hj⟩
              | 1, hj => exact ⟨by decide, Option.some.inj hj⟩
              | j + 2, hj => cases hj
            have hp0 : p < T0.spans.length := by omega
            obtain ⟨lo, hi, e, w1, w2, w3, w4⟩ := g1.any en hp0 hj2
            obtain ⟨lo', hi', e', v1, v2, v3, v4⟩ := g2.any en hp0 hj2
            have st1 := st.kin g1.kin
            have st2 := st.kin g2.kin
            refine ⟨_, rfl, L1.p, _, _, rfl, d2.ta.ins, rfl, _, rfl, _, rfl, L1, T1, p, j, lo, hi, e, rfl, d2.ta, by omega, (by rw [st1.len, lr]; omega), (by rw [g1.log]; omega), w1, w2, w3, g1.hv p, st1.ok.cl, fun H3 k3 t3 => ?_⟩
            have d3 := d2.stepL k3 t3
            have q4 := k3 l _ q3 (by rw [q1]; exact nla)
            refine ⟨_, rfl, L2.p, _, _, rfl, d3.tb.ins, rfl, _, rfl, _, rfl, L2, T2, p, j, lo', hi', e', rfl, d3.tb, by omega, (by rw [st2.len, lr]; omega), (by rw [g2.log]; omega), v1, v2, v3, g2.hv p, st2.ok.cl, fun H4 k4 t4 => ?_⟩
            have d4 := (d3.swap.stepL k4 t4).swap
            have q5 := k4 l _ q4 (by rw [q2]; exact nlb)
            exact ⟨L1.live H3, L2.live H4, _, _, _, rfl, q1, q2, q5, d4, w4, v4⟩
          · rintro σ H2 ⟨L1, L2, T1, T2, x12, rfl, q1, q2, q3, d2, g1, g2⟩
            exact ⟨L1, L2, T1, T2, _, _, _, rfl, d2, g1.next, g2.next⟩
        · rintro σ H1 ⟨La, Lb, Ta, Tb, x7, x8, x12, rfl, d, ga, gb⟩
          exact world_rest hg1 u0 u1 d (mk ga) (mk gb) h
end
end K24
/-! K24LT: the two small tables at the law's end. -/
namespace K24
def okB (T : Tab) : Bool := decide T.cols.Nodup && (decide T.basis.Nodup && (T.basis.all (fun k => decide (k ∉ T.cols)) && (decide (0 < T.unit) && ((T.cols ++ T.basis).isPerm (idx T.spans.length) && (decide (T.spans.length ≤ 20) &&
  (T.basis.all (fun p => T.cols.all fun c => decide ((T.E p c).natAbs < 2 ^ 700)) && decide (T.unit.natAbs < 2 ^ 700)))))))
theorem okB_ok {T : Tab} (h : okB T = true) : T.Ok := by
  unfold okB at h
  simp only [Bool.and_eq_true, decide_eq_true_eq, List.all_eq_true] at h
  obtain ⟨h1, h2, h3, h4, h5, h6, h7, h8⟩ := h
  have p := List.isPerm_iff.mp h5
  exact ⟨h1, h2, h3, h4, fun k => by rw [← List.mem_append, p.mem_iff, idx_mem], h6, h7, h8⟩
abbrev rA : List Row := [([2, 3], false, 1), ([4, 5], true, 2)]
abbrev rB : List Row := [([1, 1], false, 0), ([2, 2], false, 3)]
abbrev b01 : List (Int × Int) := [(0, 1), (0, 1)]
def tA : Tab := initT b01 rA
def tA1 : Tab := exT tA 2 0 (betw (0, 1) (some (1, 1), none))
def tA2 : Tab := exT tA1 3 1 (betw (2, 1) (some (2, 1), some (2, 1)))
def tB : Tab := initT b01 rB
def tB1 : Tab := exT tB 2 1 (betw (0, 1) (some (0, 1), none))
theorem tA_ok : tA.Ok := okB_ok (by decide +kernel)
theorem tA1_ok : tA1.Ok := okB_ok (by decide +kernel)
theorem tA2_ok : tA2.Ok := okB_ok (by decide +kernel)
theorem tB_ok : tB.Ok := okB_ok (by decide +kernel)
theorem tB1_ok : tB1.Ok := okB_ok (by decide +kernel)
theorem tA_val : valT tA 2 = some (0, 1) ∧ tA.spans[2]? = some (some (1, 1), none) ∧ tA.E 2 0 ≠ 0 ∧ (2 : Int) ∈ tA.basis ∧ (0 : Int) ∈ tA.cols := by decide +kernel
theorem tA1_val : valT tA1 3 = some (2, 1) ∧ tA1.spans[3]? = some (some (2, 1), some (2, 1)) ∧ tA1.E 3 1 ≠ 0 ∧ (3 : Int) ∈ tA1.basis ∧ (1 : Int) ∈ tA1.cols := by decide +kernel
theorem tA2_in : (0 : Int) ∈ tA2.basis ∧ (1 : Int) ∈ tA2.basis ∧ (2 : Int) ∈ tA2.cols ∧ (3 : Int) ∈ tA2.cols := by decide +kernel
theorem tA2_ent : M.norm (tA2.E 0 2) tA2.unit = (-5, 2) ∧ M.norm (tA2.E 0 3) tA2.unit = (3, 2) ∧ M.norm (tA2.E 1 2) tA2.unit = (2, 1) ∧ M.norm (tA2.E 1 3) tA2.unit = (-1, 1) := by decide +kernel
theorem tB_val : valT tB 2 = some (0, 1) ∧ tB.spans[2]? = some (some (0, 1), none) ∧ tB.E 2 1 ≠ 0 ∧ (2 : Int) ∈ tB.basis ∧ (1 : Int) ∈ tB.cols := by decide +kernel
theorem tB1_in : (3 : Int) ∈ tB1.basis ∧ (0 : Int) ∈ tB1.cols ∧ tB1.E 3 0 = 0 ∧ tB1.E 3 2 ≠ 0 ∧ tB1.cols = [0, 2] ∧ (0 : Int) ∉ tB1.basis ∧ M.norm (tB1.E 3 2) tB1.unit = (2, 1) := by decide +kernel
theorem tB1_row : nzs tB1 3 = [2] ∧ rowF tB1 3 2 = (2, 1) := by
  obtain ⟨_, _, h1, h2, h3, _, h4⟩ := tB1_in
  refine ⟨?_, h4⟩
  unfold nzs
  rw [h3, ← srt_uniq (List.Perm.refl [(0 : Int), 2]) (by decide), List.filter_cons_of_neg (by simp [h1]), List.filter_cons_of_pos (by simp [h2])]
  rfl
theorem sm_nat {a b : Int} (ha : a.natAbs ≤ 10) (hb : b.natAbs ≤ 10) : Sm (a, b) := sm_small (Nat.lt_of_le_of_lt ha (by decide)) (Nat.lt_of_le_of_lt hb (by decide))
theorem init01 {rs : List Row} (h : b01.length + rs.length ≤ 20) (hr : ∀ r ∈ rs, r.1.length = 2 ∧ ∀ x ∈ r.1, x.natAbs ≤ 10) : InitOk b01 rs := ⟨h, fun b hb => by
  have : b = (0, 1) := by
    rcases List.mem_cons.mp hb with h | h
    · exact h
    · exact List.mem_singleton.mp h
  rw [this]
  exact ⟨Nat.lt_of_lt_of_le (by decide : (0 : Int).natAbs < 2 ^ 5) (Nat.pow_le_pow_right (by decide) (by decide)), Nat.lt_of_lt_of_le (by decide : (1 : Int).natAbs < 2 ^ 5) (Nat.pow_le_pow_right (by decide) (by decide))⟩,
  fun r h => ⟨(hr r h).1, fun x hx => Nat.lt_of_le_of_lt ((hr r h).2 x hx) (Nat.lt_of_lt_of_le (by decide : 10 < 2 ^ 5) (Nat.pow_le_pow_right (by decide) (by decide)))⟩⟩
end K24
/-! K24LU: the small tables made, exchanged, read. -/
namespace K24
open PySem PySem.Spec PyProof.Rows L2 LamX
section
variable {K : PySem.W.Frag} {C cR : Addr} {H : Hp} {L : Lay} {T : Tab} {σ : L2.St}
theorem extN_lst {H' : Hp} (e : ExtN H H') {a : Addr} {xs : List V} (h : SqL K H a xs) : SqL K H' a xs := by
  rcases h with (h | ⟨o, h⟩) | h
  · exact .inl (.inl (e _ _ h (fun _ z => nomatch z)))
  · exact .inl (.inr ⟨o, e _ _ h (fun _ z => nomatch z)⟩)
  · exact .inr h
theorem Tab.Ok.inb (ok : T.Ok) {k : Int} (h : k ∈ T.basis) : inB T.basis (.int k) = true := by
  have := (ok.mem k).mp (.inr h)
  show (decide (0 ≤ k) && decide (k ∈ T.basis)) = true
  simp [h, this.1]
theorem Tab.Ok.inc (ok : T.Ok) {k : Int} (h : k ∈ T.cols) : inB T.cols (.int k) = true := by
  have := (ok.mem k).mp (.inl h)
  show (decide (0 ≤ k) && decide (k ∈ T.cols)) = true
  simp [h, this.1]
theorem exch_go {i j : Int} {q : Fr} {e : Ends2} {Q : VK} {E : XK} (t : TabAt K C H L T) (ok : T.Ok) (hi : i ∈ T.basis) (hj : j ∈ T.cols) (h0 : T.E i j ≠ 0) (hv : valT T i = some q) (hs : T.spans[i.toNat]? = some e) (sq : Sm q) (se : SmE e)
    (h : ∀ L' H', L'.p = L.p → Keep L.fp H H' → TabAt K C H' L' (exT T i j (betw q e)) → Q .non H') : spExch K C cR [.ref L.p, .int i, .int j] H Q E := by
  refine ⟨L, T, _, "int", _, "int", rfl, t, ok, .int _, .int _, (fun e => by rw [ok.inb hi] at e; cases e), (fun _ e => by rw [ok.inc hj] at e; cases e), fun i' j' e1 e2 _ _ => ?_⟩
  cases e1
  cases e2
  exact ⟨fun z => absurd z h0, fun _ => ⟨q, e, hv, hs, sq, se, fun L' H' k g t' => h L' H' g.p k t'⟩⟩
theorem ent_go {i j : Int} {Q : VK} {E : XK} (t : TabAt K C H L T) (ok : T.Ok) (hi : i ∈ T.basis) (hj : j ∈ T.cols) {x y : Int} (hxy : M.norm (T.E i j) T.unit = (x, y))
    (h : ∀ a, H a = none → Q (.ref a) (upd H a (.tup [.int x, .int y]))) : spEntry K C cR [.ref L.p, .int i, .int j] H Q E := by
  refine ⟨L, T, _, "int", _, "int", rfl, t, ok, .int _, .int _, (fun e => by rw [ok.inb hi] at e; cases e), (fun _ e => by rw [ok.inc hj] at e; cases e), fun i' j' e1 e2 _ _ a ha => ?_⟩
  cases e1
  cases e2
  rw [hxy]
  exact h a ha
theorem ne_go {a b : Addr} {x y : Int} {Q : VK} (ha : SqT K H a [.int x, .int y]) (hb : SqT K H b [.int x, .int y]) (h : Q (.bl false) H) : rNeD K (.ref a) (.ref b) H Q := by
  refine ⟨_, _, frD_dp (q := (x, y)) ha, frD_dp (q := (x, y)) hb, frD_shaped _, frD_shaped _, ?_⟩
  rw [frD_eqv]
  exact h
/-- table.entry(i, j) != (x, y) -/
theorem ent_test {s : Nat} {i j x y : Int} {ty : TE} {Q : Bool → Hp → Prop} (hσ : σ[s]? = some (some (.ref L.p))) (t : TabAt K C H L T) (ok : T.Ok) (hi : i ∈ T.basis) (hj : j ∈ T.cols) (hxy : M.norm (T.E i j) T.unit = (x, y)) (hy : ∀ G Q, Q (.int x) G → ty σ G Q)
    (h : ∀ G, Same H G → Q false G) : tTest (tOp (rNeD K) (tMeth C "entry" (spEntry K C cR) [] E0 (tVar s) (tCons (tC (.int i)) (tCons (tC (.int j)) tNil))) (tTup (tCons ty (tCons (tC (.int y)) tNil)))) σ H Q := by
  refine ⟨_, hσ, L.p, _, _, rfl, t.ins, rfl, ?_⟩
  dsimp only [tCons, tC, tNil, List.append_nil]
  refine ent_go t ok hi hj hxy fun a ha => ?_
  show ty σ _ _
  refine hy _ _ ⟨(by show 2 ≤ sizeLine; decide), fun b hb => ?_⟩
  have sa := same_new (o := .tup [.int x, .int y]) ha
  have sb := same_new (o := .tup [.int x, .int y]) hb
  refine ne_go (SqT.of (sb _ _ upd_same)) (SqT.of upd_same) ⟨_, rfl, h _ (sa.trans sb)⟩
abbrev tRow (x y : Int) (e : Bool) (c : Int) : TE := tTup (tCons (tTup (tCons (tC (.int x)) (tCons (tC (.int y)) tNil))) (tCons (tC (.bl e)) (tCons (tC (.int c)) tNil)))
abbrev t01 : TE := tTup (tCons (tTup (tCons (tC (.int 0)) (tCons (tC (.int 1)) tNil))) (tCons (tTup (tCons (tC (.int 0)) (tCons (tC (.int 1)) tNil))) tNil))
theorem row_made {x y c : Int} {e : Bool} {Q : VK} (h : ∀ a G, Same H G → RowAt K G a [x, y] e c → Q (.ref a) G) : tRow x y e c σ H Q := by
  refine ⟨(by show 2 ≤ sizeLine; decide), fun p hp => ⟨(by show 3 ≤ sizeLine; decide), fun q hq => ?_⟩⟩
  have sp := same_new (o := .tup [.int x, .int y]) hp
  have sq := same_new (o := .tup [.ref p, .bl e, .int c]) hq
  exact h q _ (sp.trans sq) ⟨p, SqT.of upd_same, SqT.of (sq _ _ upd_same)⟩
theorem cons_go {te : TE} {t : TA} {Q : List V → Hp → Prop} (h : te σ H fun x H1 => t σ H1 fun xs H2 => Q (x :: xs) H2) : tCons te t σ H Q := h
theorem tup_go {t : TA} {Q : VK} (h : t σ H fun xs H1 => xs.length ≤ sizeLine ∧ ∀ p, H1 p = none → Q (.ref p) (upd H1 p (.tup xs))) : tTup t σ H Q := h
theorem tab_made {x y x' y' c c' : Int} {e e' : Bool} {Q : VK} (hb : ∀ z ∈ [x, y, x', y'], z.natAbs ≤ 10) (h : ∀ L G, Same H G → TabAt K C G L (initT b01 [([x, y], e, c), ([x', y'], e', c')]) → Q (.ref L.p) G) :
    tMake C (spInit K C) [] E0 (tCons (tTup (tCons (tRow x y e c) (tCons (tRow x' y' e' c') tNil))) (tCons t01 tNil)) σ H Q := by
  show tCons _ _ σ H _
  refine cons_go (tup_go (cons_go (row_made (K := K) fun r1 H1 s1 h1 => cons_go (row_made (K := K) fun r2 H2 s2 h2 => ?_))))
  refine ⟨(by show 2 ≤ sizeLine; decide), fun rt hrt => ⟨(by show 2 ≤ sizeLine; decide), fun p hp => ⟨(by show 2 ≤ sizeLine; decide), fun q hq => ⟨(by show 2 ≤ sizeLine; decide), fun ba hba => ?_⟩⟩⟩⟩
  have s3 := same_new (o := .tup [.ref r1, .ref r2]) hrt
  have s4 := same_new (o := .tup [.int 0, .int 1]) hp
  have s5 := same_new (o := .tup [.int 0, .int 1]) hq
  have s6 := same_new (o := .tup [.ref p, .ref q]) hba
  intro z dz hz hdz ndz
  have s7 := (same_new (o := .own z) hdz).trans (same_new (o := .ins C dz []) (by rw [upd_ne (Ne.symm ndz)]; exact hz))
  have s37 := ((s4.trans s5).trans s6).trans s7
  refine ⟨z, rt, ba, dz, b01, [([x, y], e, c), ([x', y'], e', c')], rfl, upd_same, ⟨[p, q], SqT.of (s7 _ _ upd_same), .cons (SqT.of (((s5.trans s6).trans s7) _ _ upd_same)) (.cons (SqT.of ((s6.trans s7) _ _ upd_same)) .nil)⟩,
    ⟨[r1, r2], SqT.of (s37 _ _ upd_same), .cons (h1.same (s2.trans (s3.trans s37))) (.cons (h2.same (s3.trans s37)) .nil)⟩, init01 (by show 2 + 2 ≤ 20; decide) ?_, fun L G eL k f r t => ⟨rfl, ?_⟩⟩
  · intro r hr
    rcases List.mem_cons.mp hr with rfl | hr
    · exact ⟨rfl, fun z hz => hb z (by simp only [List.mem_cons, List.not_mem_nil, or_false] at hz ⊢; omega)⟩
    · rw [List.mem_singleton.mp hr]
      exact ⟨rfl, fun z hz => hb z (by simp only [List.mem_cons, List.not_mem_nil, or_false] at hz ⊢; omega)⟩
  · rw [← eL]
    exact h L G (((s1.trans s2).trans s3).trans (((s4.trans s5).trans s6).trans (made_same hz hdz k))) t
theorem exch_zero {i j : Int} {Q : VK} {E : XK} (t : TabAt K C H L T) (ok : T.Ok) (hi : i ∈ T.basis) (hj : j ∈ T.cols) (h0 : T.E i j = 0) (he : Err cR "zero" H E) : spExch K C cR [.ref L.p, .int i, .int j] H Q E := by
  refine ⟨L, T, _, "int", _, "int", rfl, t, ok, .int _, .int _, (fun e => by rw [ok.inb hi] at e; cases e), (fun _ e => by rw [ok.inc hj] at e; cases e), fun i' j' e1 e2 _ _ => ?_⟩
  cases e1
  cases e2
  exact ⟨fun _ => he, fun z => absurd h0 z⟩
theorem exch_basis {i j : Int} {Q : VK} {E : XK} (t : TabAt K C H L T) (ok : T.Ok) (hi : i ∉ T.basis) (he : Err cR "basis" H E) : spExch K C cR [.ref L.p, .int i, .int j] H Q E := by
  have hf : inB T.basis (.int i) = false := by
    show (decide (0 ≤ i) && decide (i ∈ T.basis)) = false
    simp [hi]
  refine ⟨L, T, _, "int", _, "int", rfl, t, ok, .int _, .int _, (fun _ => he), (fun e _ => by rw [hf] at e; cases e), fun i' j' e1 e2 z _ => ?_⟩
  cases e1
  exact absurd z hi
theorem seq_drop {te : TE} {u : TS} {D : Ends} (h : te σ H fun _ H1 => u D σ H1) : tSeq (tDrop te) u D σ H := h
theorem seq_if {c : TT} {t u : TS} {D : Ends} (h : c σ H fun b H1 => if b = true then t { D with nx := u D } σ H1 else u D σ H1) : tSeq (tIfS c t tNext) u D σ H := h
theorem or_go {c1 c2 : TT} {Q : Bool → Hp → Prop} (h : c1 σ H fun b H1 => if b = true then Q true H1 else c2 σ H1 Q) : tOr c1 c2 σ H Q := h
theorem exch_te {s : Nat} {i j : Int} {q : Fr} {e : Ends2} {Q : VK} (hσ : σ[s]? = some (some (.ref L.p))) (t : TabAt K C H L T) (ok : T.Ok) (hi : i ∈ T.basis) (hj : j ∈ T.cols) (h0 : T.E i j ≠ 0) (hv : valT T i = some q) (hs : T.spans[i.toNat]? = some e) (sq : Sm q) (se : SmE e)
    (h : ∀ L' H', L'.p = L.p → Keep L.fp H H' → TabAt K C H' L' (exT T i j (betw q e)) → Q .non H') : tMeth C "exchange" (spExch K C cR) [] E0 (tVar s) (tCons (tC (.int i)) (tCons (tC (.int j)) tNil)) σ H Q := by
  refine ⟨_, hσ, L.p, _, _, rfl, t.ins, rfl, ?_⟩
  dsimp only [tCons, tC, tNil, List.append_nil]
  exact exch_go t ok hi hj h0 hv hs sq se h
theorem exch_kw {s : Nat} {i j : Int} {q : Fr} {e : Ends2} {Q : VK} {gV : List V → List V → List V} (hg2 : ∀ x y z, gV [x] [y, z] = [x, z, y]) (hσ : σ[s]? = some (some (.ref L.p))) (t : TabAt K C H L T) (ok : T.Ok) (hi : i ∈ T.basis) (hj : j ∈ T.cols) (h0 : T.E i j ≠ 0) (hv : valT T i = some q) (hs : T.spans[i.toNat]? = some e) (sq : Sm q) (se : SmE e)
    (h : ∀ L' H', L'.p = L.p → Keep L.fp H H' → TabAt K C H' L' (exT T i j (betw q e)) → Q .non H') : tMethK C "exchange" (spExch K C cR) gV E0 (tVar s) (tCons (tC (.int j)) (tCons (tC (.int i)) tNil)) σ H Q := by
  refine ⟨_, hσ, L.p, _, _, rfl, t.ins, rfl, ?_⟩
  dsimp only [tCons, tC, tNil]
  rw [hg2]
  exact exch_go t ok hi hj h0 hv hs sq se h
/-- flat.row_at(3) != {2: (2, 1)} -/
theorem row_test {s : Nat} {Q : Bool → Hp → Prop} (hσ : σ[s]? = some (some (.ref L.p))) (t : TabAt K C H L tB1) (h : ∀ G, Same H G → Q false G) :
    tTest (tOp (rNeDD K) (tMeth C "row_at" (spRowAt K C cR) [] E0 (tVar s) (tCons (tC (.int 3)) tNil)) (tDisp [(tC (.int 2), tTup (tCons (tC (.int 2)) (tCons (tC (.int 1)) tNil)))])) σ H Q := by
  obtain ⟨b1, _⟩ := tB1_in
  obtain ⟨r1, r2⟩ := tB1_row
  refine ⟨_, hσ, L.p, _, _, rfl, t.ins, rfl, L, tB1, .int 3, "int", rfl, t, tB1_ok, .int _, (fun e => by rw [tB1_ok.inb b1] at e; cases e), fun k' ek _ a H2 kvs s2 na ea pd => ?_⟩
  cases ek
  intro p hp
  refine ⟨(by show 2 ≤ sizeLine; decide), fun q hq => ?_⟩
  have npq : p ≠ q := fun z => by
    rw [← z, upd_same] at hq
    cases hq
  have sp := same_new (o := .dK []) hp
  have sq := same_new (o := .tup [.int 2, .int 1]) hq
  refine ⟨by rw [upd_ne npq, upd_same], [(.inl 2, .ref q)], rfl, (by show 1 ≤ 15; decide), ?_⟩
  have sF : Same H2 (upd (upd (upd H2 p (.dK [])) q (.tup [.int 2, .int 1])) p (.dK (mergeK [] [(.inl 2, .ref q)]))) := same_put (sp.trans sq) hp
  have fq : FrA K (upd (upd (upd H2 p (.dK [])) q (.tup [.int 2, .int 1])) p (.dK (mergeK [] [(.inl 2, .ref q)]))) q (rowF tB1 3 2) := by
    rw [r2]
    exact SqT.of (by rw [upd_ne (Ne.symm npq), upd_same])
  rw [r1] at pd
  obtain ⟨z4, z5⟩ := dd_rows (g := rowF tB1 3) (pd.imp fun v x ⟨b, e, r⟩ => ⟨b, e, r.same sF⟩) (kvs' := [(.inl 2, .ref q)]) (.cons ⟨rfl, q, rfl, fq⟩ .nil)
  exact ⟨a, p, kvs, [(.inl 2, .ref q)], rfl, rfl, sF _ _ ea, upd_same, z4, z5, _, rfl, h _ (s2.trans sF)⟩
theorem cmul3 {e : Int} (h0 : 0 ≤ e) (h1 : e ≤ 1) : CMulW 3 e :=
  sm_mul (Nat.lt_of_lt_of_le (by decide : (3 : Int).natAbs < 2 ^ 5) (Nat.pow_le_pow_right (by decide) (by decide))) (Nat.lt_of_lt_of_le (by omega : e.natAbs < 2 ^ 5) (Nat.pow_le_pow_right (by decide) (by decide)))
end
end K24
/-! K24LW: law. -/
namespace K24
open PySem PySem.Spec PyProof.Rows L2 LamX
section
variable {P : Program} {w : World} {K : PySem.W.Frag} {mg : Str → Option Value} {base : Heap} {f g : Addr} {fd fg : FuncData} {cI cR cT C z : Addr}
/-- of a caught error: isinstance thrice -/
def tChain (K : PySem.W.Frag) (cI cR a : Addr) (cls : Value) (d : Option Addr) : TS := fun D σ H => ∃ dd, cls = .ref cR ∧ d = some dd ∧
  tRet (tAndV (tCB (rIsD K cR a dd) (tCons (tVar 5) (tCons (tC (.ref cR)) tNil))) (tAndV (tCB (rIsD K cR a dd) (tCons (tVar 5) (tCons (tC (.ty "ValueError")) tNil))) (tNotV (tCB (rIsD K cR a dd) (tCons (tVar 5) (tCons (tC (.ref cI)) tNil)))))) D σ H
abbrev lwS (i : Nat) : Stmt := (defBody s_law).getD i dS
abbrev lwL : Expr := callA (cmpL (boolR (ifTest (lwS 8))))
abbrev dL0 (K : PySem.W.Frag) (C cR : Addr) : LamD := lamD lwL fun E => tMeth C "exchange" (spExch K C cR) [] E (tVar 4) (tCons (tC (.int 3)) (tCons (tC (.int 0)) tNil))
abbrev lwN : List Str := ["_law_script", "_law_heap_here", "_law_turn", "_law_table", "_law_flat", "error"]
structure DLw (P : Program) (w : World) (K : PySem.W.Frag) (mg : Str → Option Value) (base : Heap) (C cR : Addr) (g : List Value → List Value → List Value) (gV : List V → List V → List V) (T : List (Addr × Str)) : Prop where
  law_heap : Dn P w K mg base "_law_heap" 1 ["_law_script"] (spHeap K)
  law_world_right : DnG P w K mg base "_law_world_right" 9 ["_law_heap_here", "_law_turns"] (spWorld K T)
  Tableau : Dk P w K mg base "Tableau" C 3 ["self", "rows", "box"] (spInit K C)
  exchange : Dm P w K mg base C "exchange" 5 ["self", "place", "column"] (spExch K C cR)
  exchangeK : Dmk P w K mg base C "exchange" 5 ["self", "place", "column"] ["column", "place"] g gV (spExch K C cR)
  entry : Dm P w K mg base C "entry" 4 ["self", "place", "column"] (spEntry K C cR)
  row_at : Dm P w K mg base C "row_at" 3 ["self", "place"] (spRowAt K C cR)
theorem lw_ok {c : Addr} {A : Around} {outer : List Env} {s : Shared} {H : Hp} {E0 : XK} {g : List Value → List Value → List Value} {gV : List V → List V → List V} {T : List (Addr × Str)} (D : DLw P w K mg base C cR g gV T) : ∀ d ∈ [dL0 K C cR], d.Ok (cxOf (L2.CX P w) P w K mg base lwN "law" (defScope s_law) f (.ref c) A outer s H E0) 5 := by
  intro d hd
  rw [List.mem_singleton.mp hd]
  exact ⟨lamS_by (by show lamSB (defScope s_law) (lamSc lwL) = true; decide +kernel), rfl, fun _ _ _ _ _ => rfl, fun A outer s H E f c' hr => pe_dm (pv 4) D.exchange (hr.mono (by decide)) (passes_call (takes_of rfl rfl rfl rfl) (fun _ _ _ _ z => z)) (pa_cons pe_int (pa_cons pe_int pa_nil))⟩
abbrev qLw (f c : Addr) : Str := (envOfC "law" (defScope s_law) 0 f (.ref c)).qual ++ "<lambda>"
theorem is_chain {X : Cx} {a : Addr} {oe : Obj} {cls : Value} {d' : Option Addr} {pn : List (Addr × Obj)} {p1 p2 p3 p4 p5 p6 p7 p8 p9 q1 q2 q3 q4 q5 q6 : Pos} (hz : Zc cls d' oe) (hf : ∃ vs, oe.data = .fields vs) (XC : ExcC X.K cR) (Z : Bz X.mg) (hmR : X.mg "Refused" = some (.ref cR)) (hmI : X.mg "InvalidNumber" = some (.ref cI)) (hN : X.N[5]? = some ("error" : Str)) (hv : Vis X.env.scope "error") (g1 : Gl X "Refused") (g2 : Gl X "ValueError") (g3 : Gl X "InvalidNumber") (g4 : Gl X "isinstance") :
    PSs (X.suite a ((a, oe) :: pn)) [.Return (some (.BoolOp .And [.Call (.Name "isinstance" p1) [.Name "error" p2, .Name "Refused" p3] [] p4, .Call (.Name "isinstance" p5) [.Name "error" p6, .Name "ValueError" p7] [] p8, .UnaryOp .Not (.Call (.Name "isinstance" p9) [.Name "error" q1, .Name "InvalidNumber" q2] [] q3) q4] q5)) q6] (tChain X.K cI cR a cls d') := by
  refine ⟨fun pins s σ H D I h => ?_⟩
  obtain ⟨dd, rfl, rfl, q⟩ := h
  exact (pss_one (ps_ret (pe_and (pe_callB (call_isD XC hz hf) g4 Z.isinst (by decide +kernel) (pa_cons (pe_var (i := 5) hN hv) (pa_cons (pe_glob (u := .ref cR) (v := .ref cR) g1 hmR rfl) pa_nil)))
    (pe_and (pe_callB (call_isD XC hz hf) g4 Z.isinst (by decide +kernel) (pa_cons (pe_var (i := 5) hN hv) (pa_cons (pe_bltn (v := .ty "ValueError") (u := .type "ValueError") g2 Z.vErr (by decide +kernel) rfl) pa_nil)))
    (pe_one (pe_not (pe_callB (call_isD XC hz hf) g4 Z.isinst (by decide +kernel) (pa_cons (pe_var (i := 5) hN hv) (pa_cons (pe_glob (u := .ref cI) (v := .ref cI) g3 hmI rfl) pa_nil))))))))).run pins s σ H D I q
def spLaw (K : PySem.W.Frag) (T : List (Addr × Str)) : Sp := fun vs H Q _ => ∃ (a : Addr) (ns : List Int), vs = [.ref a] ∧ SqL K H a (ns.map V.int) ∧ ns.length ≤ 63 ∧ Tabs T H ∧ ∀ H', Q (.bl true) H'
structure XLw (K : PySem.W.Frag) (cI cR cT : Addr) : Prop where
  t : PySem.W.exmOne K (.ref cR) (.ref cT) = some true
  i1 : PySem.W.kitOne K (.ref cR) (.ref cR) = some true
  i2 : PySem.W.kitOne K (.ref cR) (.type "ValueError") = some true
  i3 : PySem.W.kitOne K (.ref cR) (.ref cI) = some false
theorem ok_law {c Pt : Addr} {g0 : List Value → List Value → List Value} {gV : List V → List V → List V} {T : List (Addr × Str)} (F0 : FunC K "law" "law" s_law f fd c) (tc : TC K C) (Z : Bz mg) (hg2 : ∀ x y z, gV [x] [y, z] = [x, z, y]) (D : DLw P w K mg base C cR g0 gV T) (FH : Fun K "_law_heard" "_law_heard" s_l_heard g fg) (hmH : mg "_law_heard" = some (.ref g)) (Tw : Two P w K mg base cI cR)
    (TB : TabB base mg c Pt) (hmT : (Pt, qLw f c) ∈ T) (huT : ∀ p ∈ T, p.1 = Pt → p.2 = qLw f c) (XC : ExcC K cR) (hmE : mg "TaskError" = some (.ref cT)) (hmR : mg "Refused" = some (.ref cR)) (hmI : mg "InvalidNumber" = some (.ref cI)) (X4 : XLw K cI cR cT) : FnG P w K mg base (L2.CX P w) 10 f fd ["_law_script"] (spLaw K T) := by
  refine okGC F0 sc_law (fun vs H Q E h => ?_) (fun A outer s H vs Q E hr hgd h => ?_)
  · obtain ⟨a, ns, rfl, _⟩ := h
    rfl
  · obtain ⟨a, ns, rfl, hs, hl, hT, h⟩ := h
    have nd := sc_law.nd
    have hu := hu_of hr
    have ok := lw_ok (f := f) (c := c) (A := A) (outer := outer) (s := s) (H := H) (E0 := E) D
    refine ⟨_, (pss_cons (ps_set (i := 1) nd rfl (Or.inl rfl) (pe_dn D.law_heap (hr.mono (by decide)) rfl passL (pa_cons (pv 0) pa_nil)))
      (pss_cons (ps_for (passes_of rfl) rfl (pi_range1 rfl Z.range_ (pa_cons (pe_op op_add pe_int (pe_callTy call_int1 rfl Z.int_ (by decide +kernel) (pa_cons (pe_cmpR op_gt (pe_callB call_len_seq rfl Z.len_ PySem.boot_len (pa_cons (pv 0) pa_nil)) pe_int (nomark _)) pa_nil))) pa_nil)) (pg_name (i := 2) nd rfl (Or.inl rfl)) (pss_one (ps_if (pt_not (pt_val (pe_dnG D.law_world_right (hr.mono (by decide)) hgd rfl passL (pa_cons (pv 1) (pa_cons (pe_op op_add pe_int (pe_op op_mulW pe_int (pe_callTy call_int1 rfl Z.int_ (by decide +kernel) (pa_cons (pe_cmpR op_gt (pe_callB call_len_seq rfl Z.len_ PySem.boot_len (pa_cons (pv 0) pa_nil)) pe_int (nomark _)) pa_nil)))) pa_nil))))) (pss_one (ps_ret pe_bl)) pss_nil)))
      (pss_cons (ps_set (i := 3) nd rfl (Or.inl rfl) (pe_dk D.Tableau (hr.mono (by decide)) rfl (pa_cons (pe_tup (pa_cons (pe_tup (pa_cons (pe_tup (pa_cons pe_int (pa_cons pe_int pa_nil))) (pa_cons pe_bl (pa_cons pe_int pa_nil)))) (pa_cons (pe_tup (pa_cons (pe_tup (pa_cons pe_int (pa_cons pe_int pa_nil))) (pa_cons pe_bl (pa_cons pe_int pa_nil)))) pa_nil))) (pa_cons (pe_tup (pa_cons (pe_tup (pa_cons pe_int (pa_cons pe_int pa_nil))) (pa_cons (pe_tup (pa_cons pe_int (pa_cons pe_int pa_nil))) pa_nil))) pa_nil))))
      (pss_cons (ps_expr (pe_dm (pv 3) D.exchange (hr.mono (by decide)) passL (pa_cons pe_int (pa_cons pe_int pa_nil))))
      (pss_cons (ps_expr (pe_dmk (pv 3) D.exchangeK (hr.mono (by decide)) passL (pk_cons pe_int (pk_cons pe_int pk_nil))))
      (pss_cons (ps_if (PW.pt (pw_or (pt_cmpR (op_neD hr.units) (pe_dm (pv 3) D.entry (hr.mono (by decide)) passL (pa_cons pe_int (pa_cons pe_int pa_nil))) (pe_tup (pa_cons (pe_op op_sub pe_int pe_int) (pa_cons pe_int pa_nil))) (nomark _)) (pw_or (pt_cmpR (op_neD hr.units) (pe_dm (pv 3) D.entry (hr.mono (by decide)) passL (pa_cons pe_int (pa_cons pe_int pa_nil))) (pe_tup (pa_cons pe_int (pa_cons pe_int pa_nil))) (nomark _)) (pw_or (pt_cmpR (op_neD hr.units) (pe_dm (pv 3) D.entry (hr.mono (by decide)) passL (pa_cons pe_int (pa_cons pe_int pa_nil))) (pe_tup (pa_cons pe_int (pa_cons pe_int pa_nil))) (nomark _)) (pw_or1 (pt_cmpR (op_neD hr.units) (pe_dm (pv 3) D.entry (hr.mono (by decide)) passL (pa_cons pe_int (pa_cons pe_int pa_nil))) (pe_tup (pa_cons (pe_op op_sub pe_int pe_int) (pa_cons pe_int pa_nil))) (nomark _))))))) (pss_one (ps_ret pe_bl)) pss_nil)
      (pss_cons (ps_set (i := 4) nd rfl (Or.inr rfl) (pe_dk D.Tableau (hr.mono (by decide)) rfl (pa_cons (pe_tup (pa_cons (pe_tup (pa_cons (pe_tup (pa_cons pe_int (pa_cons pe_int pa_nil))) (pa_cons pe_bl (pa_cons pe_int pa_nil)))) (pa_cons (pe_tup (pa_cons (pe_tup (pa_cons pe_int (pa_cons pe_int pa_nil))) (pa_cons pe_bl (pa_cons pe_int pa_nil)))) pa_nil))) (pa_cons (pe_tup (pa_cons (pe_tup (pa_cons pe_int (pa_cons pe_int pa_nil))) (pa_cons (pe_tup (pa_cons pe_int (pa_cons pe_int pa_nil))) pa_nil))) pa_nil))))
      (pss_cons (ps_expr (pe_dm (pv 4) D.exchange (hr.mono (by decide)) passL (pa_cons pe_int (pa_cons pe_int pa_nil))))
      (pss_cons (ps_if (PW.pt (pw_or (pt_cmpR (op_neDD (r65 hr)) (pe_dm (pv 4) D.row_at (hr.mono (by decide)) passL (pa_cons pe_int pa_nil)) (pe_disp (pps_cons pe_int (pe_tup (pa_cons pe_int (pa_cons pe_int pa_nil))) pps_nil) rfl rfl (by decide) (by decide)) (nomark _)) (pw_or1 (pt_cmpR (op_neD hr.units) (pe_heard (ls := [dL0 K C cR]) FH hmH Tw ok (hr.mono (by decide)) rfl (pe_lam (d := dL0 K C cR) (ok _ List.mem_cons_self) TB rfl hmT huT)) (pe_tup (pa_cons pe_str (pa_cons pe_str pa_nil))) (nomark _))))) (pss_one (ps_ret pe_bl)) pss_nil)
      (pss_cons (ps_try_asM (i := 5) (n := "error") rfl rfl nd rfl rfl (takes_of rfl rfl rfl rfl) (fun W pn xe tk _ => pss_one (ps_expr (pe_dm (pv 4) D.exchange (hr.mono (by decide)) (passes_call (E := fun cls d H' => ∀ σ', W cls d σ' H') tk (fun _ _ σ' _ z => z σ')) (pa_cons pe_int (pa_cons pe_int pa_nil))))) (.cons (c := .ref cT) ⟨rfl, by decide, .inl hmE⟩ (fun a oe cls d' pn hz hf' => is_chain (X := cxOf (L2.CX P w) P w K mg base lwN "law" (defScope s_law) f (.ref c) A outer s H E) hz hf' XC Z hmR hmI rfl (Or.inl rfl) rfl rfl rfl rfl) .nil))
      (pss_one (ps_ret pe_bl)))))))))))), ?_⟩
    refine ⟨_, rfl, a, ns, rfl, hs, by omega, fun o nn H1 s1 hh1 n1 n2 => ?_⟩
    have T1 := tabs_same hT s1
    obtain ⟨m, hm⟩ : ∃ m : Nat, (ns.map V.int).length = m := ⟨_, rfl⟩
    have bit : ∀ k : Int, ∃ e : Int, (if decide (k < ((ns.map V.int).length : Nat)) = true then (1 : Int) else 0) = e ∧ 0 ≤ e ∧ e ≤ 1 := fun k => ⟨_, rfl, by split <;> decide, by split <;> decide⟩
    refine ⟨_, rfl, a, _, rfl, .inl (s1.seq hs), _, _, rfl, rfl, .inr ⟨_, rfl, _, _, rfl, rfl, ?_⟩⟩
    obtain ⟨e, he, e0, e1⟩ := bit 2
    rw [he]
    refine ⟨_, rfl, by omega, by omega, for_range (lo := 0) (n := (1 + e).toNat) (fun i σ G => ∃ x2, σ = [some (.ref a), some (.ref o), x2, none, none, none] ∧ ExtN H G ∧ HeapAt G o nn ∧ Tabs T G) ?_ ?_ ?_⟩
    · exact ⟨_, rfl, extN_same s1, hh1, T1⟩
    · rintro i σ G hi ⟨x2, rfl, eG, hG, tG⟩
      have hsG := extN_lst eG hs
      obtain ⟨b, hb, b0, b1⟩ := bit 3
      refine ⟨_, rfl, _, rfl, a, _, rfl, .inl hsG, _, _, rfl, rfl, .inr ⟨_, rfl, ?_⟩⟩
      rw [hb]
      refine ⟨_, _, rfl, rfl, cmul3 b0 b1, _, _, rfl, rfl, ?_⟩
      refine ⟨o, nn, _, rfl, hG, by omega, by omega, tG, fun G' k hG' tG' => ⟨_, rfl, iteF ?_⟩⟩
      refine ⟨_, rfl, fun b u eb nt => k b u (eG b u eb nt) (fun z => ?_) nt, hG', tG'⟩
      rcases List.mem_cons.mp z with z | z
      · rw [z, n1] at eb
        cases eb
      · rw [List.mem_singleton.mp z, n2] at eb
        cases eb
    · rintro σ G ⟨x2, rfl, eG, hG, tG⟩
      clear hh1 T1 s1 n1 n2 eG hG hT
      have t10 : ∀ z ∈ [(2 : Int), 3, 4, 5], z.natAbs ≤ 10 := by decide
      refine seq_asg (tab_made t10 fun L1 G1 s1 t1 => ?_)
      have T1 := tabs_same tG s1
      obtain ⟨v1, v2, v3, v4, v5⟩ := tA_val
      have e01 : SmE (some (1, 1), none) := ⟨sm_nat (by decide) (by decide), trivial⟩
      refine seq_drop (exch_te rfl (show TabAt K C G1 L1 tA from t1) tA_ok v4 v5 v3 v1 v2 sm01 e01 fun L2 G2 p2 k2 t2 => ?_)
      have T2 := tabs_keep T1 k2 t1.wr
      obtain ⟨u1, u2, u3, u4, u5⟩ := tA1_val
      rw [← p2]
      refine seq_drop (exch_kw hg2 rfl (show TabAt K C G2 L2 tA1 from t2) tA1_ok u4 u5 u3 u1 u2 (sm_nat (by decide) (by decide)) ⟨sm_nat (by decide) (by decide), sm_nat (by decide) (by decide)⟩ fun L3 G3 p3 k3 t3 => ?_)
      have T3 := tabs_keep T2 k3 t2.wr
      rw [← p3]
      have t3 : TabAt K C G3 L3 tA2 := t3
      clear t1 t2 T1 T2 k2 k3 v1 v2 v3 v4 v5 u1 u2 u3 u4 u5 e01 tG s1
      obtain ⟨m1, m2, m3, m4⟩ := tA2_in
      obtain ⟨q1, q2, q3, q4⟩ := tA2_ent
      refine seq_if (or_go (ent_test (K := K) rfl t3 tA2_ok m1 m3 q1 (fun G Q q => ⟨_, _, rfl, rfl, q⟩) fun G4 s4 => iteF (or_go (ent_test (K := K) rfl (t3.same s4) tA2_ok m1 m4 q2 (fun G Q q => q) fun G5 s5 => iteF (or_go (ent_test (K := K) rfl ((t3.same s4).same s5) tA2_ok m2 m3 q3 (fun G Q q => q) fun G6 s6 => iteF (ent_test (K := K) rfl (((t3.same s4).same s5).same s6) tA2_ok m2 m4 q4 (fun G Q q => ⟨_, _, rfl, rfl, q⟩) fun G7 s7 => iteF ?_)))))))
      have T7 := tabs_same T3 (((s4.trans s5).trans s6).trans s7)
      clear t3 T3 s4 s5 s6 s7 m1 m2 m3 m4 q1 q2 q3 q4
      have t11 : ∀ z ∈ [(1 : Int), 1, 2, 2], z.natAbs ≤ 10 := by decide
      refine seq_asg (tab_made t11 fun L4 G8 s8 t8 => ?_)
      have T8 := tabs_same T7 s8
      obtain ⟨w1, w2, w3, w4, w5⟩ := tB_val
      refine seq_drop (exch_te rfl (show TabAt K C G8 L4 tB from t8) tB_ok w4 w5 w3 w1 w2 sm01 ⟨sm_nat (by decide) (by decide), trivial⟩ fun L5 G9 p9 k9 t9 => ?_)
      have T9 := tabs_keep T8 k9 t8.wr
      rw [← p9]
      have t9 : TabAt K C G9 L5 tB1 := t9
      clear t8 T8 T7 k9 w1 w2 w3 w4 w5 s8
      refine seq_if (or_go (row_test (K := K) rfl t9 fun G10 s10 => iteF ?_))
      have t10 := t9.same s10
      have T10 := tabs_same T9 s10
      clear t9 T9 s10
      obtain ⟨b1, b2, b3, _, _, b6, _⟩ := tB1_in
      refine ⟨T10, fun f1 c1 H8 e8 T8 n8 l8 => ⟨dL0 K C cR, List.mem_cons_self, f1, c1, rfl, l8, fun gift => ?_⟩⟩
      have lf := l8.1
      have e9 : ExtN G10 (del H8 f1) := fun b u eb nt => by
        rw [del_ne (ne_of_none eb n8)]
        exact e8 b u eb nt
      have T9 := tabs_del T8 (φ := _) (by unfold LamO at lf; exact lf) gift
      have t9 := t10.extN e9
      clear t10 T10 e8 T8 l8 lf gift
      refine ⟨_, rfl, L5.p, _, _, rfl, t9.ins, rfl, ?_⟩
      dsimp only [tCons, tC, tNil, List.append_nil]
      refine exch_zero t9 tB1_ok b1 b2 b3 (err_says fun p H9 s9 np hp => ⟨(by show 2 ≤ sizeLine; decide), fun q hq => ⟨_, _, .tup (SqT.of ((same_new hq) _ _ hp)) (.cons (.str _) (.cons (.str _) .nil)), .tup (SqT.of upd_same) (.cons (.str _) (.cons (.str _) .nil)), shaped_two (by decide +kernel) (by decide +kernel), shaped_two (by decide +kernel) (by decide +kernel), ?_⟩⟩)
      rw [eqv_two]
      refine ⟨_, rfl, iteF ?_⟩
      have t12 := t9.same (s9.trans (same_new (o := .tup [.str "refused", .str "zero"]) hq))
      clear t9 s9 T9 hp
      refine ⟨_, rfl, L5.p, _, _, rfl, t12.ins, rfl, ?_⟩
      dsimp only [tCons, tC, tNil, List.append_nil]
      refine exch_basis t12 tB1_ok b6 fun d H' hn s' ed σ' => ⟨true, X4.t, fun _ a' na hlen => ⟨d, rfl, rfl, ?_⟩, fun z => nomatch z⟩
      have get := List.getElem?_set_self (a := some (V.ref a')) hlen
      exact ⟨_, get, _, _, _, _, rfl, fun u r => r, X4.i1, ed, _, rfl, iteT ⟨_, get, _, _, _, _, rfl, fun u r => r, X4.i2, ed, _, rfl, iteT ⟨_, get, _, _, _, _, rfl, fun u r => r, X4.i3, ed, _, rfl, h _⟩⟩⟩
end
end K24
/-! K24ND: from the heap behind the top to the law's promise. -/
namespace K24
open PySem PySem.Spec PyProof.Rows L2 LamX
theorem ns_hid {h : Heap} {H : Hp} {b : Addr} {m : Str → Option Value} (n : h.Ns b m) (f : H b = none) : (hidT h H).Ns b m := by
  obtain ⟨o, es, ep, e, r⟩ := n
  exact ⟨o, es, ep, hidT_get e f, r⟩
/-- what is watched at the start: the tables of the code objects, and the script where no fact tells it -/
def seenH (K : PySem.W.Frag) (ts : List Addr) (a : Addr) (o : Obj) (xs : List V) : Hp := fun b => if b ∈ ts then some (.tbl #[]) else if b = a ∧ (K.lookup a).isNone = true then some (.frz o (.lst xs)) else none
section
variable {K : PySem.W.Frag} {ts : List Addr} {a b : Addr} {o : Obj} {xs : List V}
theorem seen_tab (h : b ∈ ts) : seenH K ts a o xs b = some (.tbl #[]) := if_pos h
theorem seen_scr (h : a ∉ ts) (k : K.lookup a = none) : seenH K ts a o xs a = some (.frz o (.lst xs)) := by
  unfold seenH
  rw [if_neg h, if_pos ⟨rfl, by rw [k]; rfl⟩]
theorem seen_no (h : b ∉ ts) (n : b ≠ a ∨ K.lookup a ≠ none) : seenH K ts a o xs b = none := by
  unfold seenH
  rw [if_neg h, if_neg fun z => n.elim (fun q => q z.1) fun q => q (Option.isNone_iff_eq_none.mp z.2)]
theorem seen_what {u : HO} (h : seenH K ts a o xs b = some u) : (b ∈ ts ∧ u = .tbl #[]) ∨ (b ∉ ts ∧ b = a ∧ K.lookup a = none ∧ u = .frz o (.lst xs)) := by
  by_cases h1 : b ∈ ts
  · rw [seen_tab h1] at h
    exact .inl ⟨h1, (Option.some.inj h).symm⟩
  · by_cases h2 : b = a ∧ K.lookup a = none
    · obtain ⟨rfl, h2⟩ := h2
      rw [seen_scr h1 h2] at h
      exact .inr ⟨h1, rfl, h2, (Option.some.inj h).symm⟩
    · rw [seen_no h1 (by
        by_cases z : b = a
        · exact .inr fun q => h2 ⟨z, q⟩
        · exact .inl z)] at h
      cases h
end
theorem law_callG {P : Program} {w : World} {K : PySem.W.Frag} {mg mb : Str → Option Value} {k : Nat} {fa a : Addr} {fd : FuncData} {x : Str} {sp : Sp} {s : Shared} {vs : List Value} {ns : List Int} {cs : List (Addr × Addr)}
    (KX : K.In s.heap) (G : s.heap.Ns mainGlobals mg) (B : s.heap.Ns builtinsNs mb) (BB : ∀ x : Str, x ≠ "__name__" → mb x = bootBuiltins x) (L : s.heap.NoLimit) (hg : s.gens = #[])
    (T : ∀ p ∈ cs, s.heap.get? p.2 = some (PySem.W.tabObj #[]) ∧ K.lookup p.2 = none ∧ PySem.W.CodeHd s.heap p.1 p.2)
    (M : ∃ (bm : Addr) (ob : Obj), mg "__builtins__" = some (.ref bm) ∧ bm ≠ builtinsNs ∧ s.heap.get? bm = some ob ∧ ob.cls = .type "module" ∧ ob.dict = some builtinsNs ∧ ob.data = .plain)
    (ha : s.heap.get? a = some { cls := .type "list", data := .seq vs.toArray }) (hi : IntsAre vs ns) (hl : ns.length ≤ sizeLine) (hr : Room k callerA)
    (F : ∀ base : Heap, K.In base → base.Ns mainGlobals mg → (∀ p ∈ cs, TabB base mg p.1 p.2) → FnG P w K mg base (L2.CX P w) k fa fd [x] sp) (hb : ∀ (s : Shared) (u : Value), BindsTo s fd ⟨[u], []⟩ [(x, u)])
    (hsp : ∀ H : Hp, (∀ p ∈ cs, H p.2 = some (.tbl #[])) → SqL K H a (ns.map V.int) → sp [.ref a] H (fun v _ => v = .bl true) fun _ _ _ => False) :
    codeAny (model P w) callerA (.call (.ref fa) ⟨[.ref a], []⟩) (fun r s' => r = .ok (.ret (.bool true)) ∧ OldK s.heap s'.heap ∧ s'.os = s.os ∧ AllBare s'.gens) s := by
  obtain ⟨ts, hts⟩ : ∃ ts, cs.map (·.2) = ts := ⟨_, rfl⟩
  have tab : ∀ b ∈ ts, s.heap.get? b = some (PySem.W.tabObj #[]) ∧ K.lookup b = none ∧ isCodeTable s.heap b := fun b hb => by
    rw [← hts] at hb
    obtain ⟨p, hp, rfl⟩ := List.mem_map.mp hb
    obtain ⟨t1, t2, t3⟩ := T p hp
    exact ⟨t1, t2, (t3.tab t1).isCodeTable⟩
  have mem : ∀ p ∈ cs, p.2 ∈ ts := fun p hp => by rw [← hts]; exact List.mem_map.mpr ⟨p, hp, rfl⟩
  have aT : a ∉ ts := fun z => by
    have q := (tab a z).1
    rw [ha] at q
    have q' := congrArg Obj.data (Option.some.inj q)
    cases q'
  obtain ⟨H, hH⟩ : ∃ H, seenH K ts a { cls := .type "list", data := .seq vs.toArray } (ns.map V.int) = H := ⟨_, rfl⟩
  have rv := vals_ints hi
  have kin : ∀ b o, K.lookup b = some o → H b = none := fun b o e => by
    rw [← hH]
    refine seen_no (fun z => ?_) ?_
    · rw [(tab b z).2.1] at e
      cases e
    · by_cases z : b = a
      · refine .inr fun q => ?_
        rw [← z, e] at q
        cases q
      · exact .inl z
  have off : ∀ {b : Addr} {o : Obj}, s.heap.get? b = some o → (∀ xs n, o.data ≠ .seq xs n) → o.data ≠ .fields #[] → H b = none := fun {b o} e n1 n2 => by
    rw [← hH]
    refine seen_no (fun z => ?_) (.inl fun z => ?_)
    · have q := (tab b z).1
      rw [e] at q
      exact n2 (congrArg Obj.data (Option.some.inj q))
    · rw [z, ha] at e
      exact n1 _ _ (congrArg Obj.data (Option.some.inj e)).symm
  have ofD : ∀ {b : Addr} {m : Str → Option Value}, s.heap.Ns b m → H b = none := fun {b m} n => by
    obtain ⟨o, es, ep, e, d, _⟩ := n
    exact off e (fun xs n z => by rw [d] at z; cases z) fun z => by rw [d] at z; cases z
  have hok : HOk P w H s.heap := fun b u e => by
    rw [← hH] at e
    rcases seen_what e with ⟨h1, rfl⟩ | ⟨_, rfl, _, rfl⟩
    · exact (tab b h1).1
    · exact ⟨ha, by rw [List.length_map]; exact hl, vs, _, rv, ha⟩
  have mod : L2.Mod K mg (hidT s.heap H) := by
    refine ⟨fun b o e => hidT_get (KX b o e) (kin b o e), ns_hid G (ofD G), ⟨mb, ns_hid B (ofD B), BB⟩, ?_⟩
    obtain ⟨mc, l1, l2⟩ := L
    exact ⟨mc, ns_hid l1 (ofD l1), l2⟩
  have tb : ∀ p ∈ cs, TabB (hidT s.heap H) mg p.1 p.2 := fun p hp => by
    obtain ⟨t1, _, t3⟩ := T p hp
    obtain ⟨_, _, _, m1, dm, _⟩ := id G
    refine ⟨?_, ?_, fun z => ?_⟩
    · obtain ⟨o, us, fl, tf, fg, tg, i, x1, x2, c1, c2, c3, c4, c5⟩ := t3
      refine ⟨o, us, fl, tf, fg, tg, i, x1, x2, hidT_get c1 (off c1 (fun xs n z => ?_) fun z => ?_), c2, c3, c4, c5⟩
      · rw [c3] at z
        cases z
      · rw [c3] at z
        cases z
        simp at c4
    · obtain ⟨bm, ob, b1, b2, b3, b4, b5, b6⟩ := M
      refine ⟨bm, ob, b1, b2, fun z => ?_, fun z => ?_, hidT_get b3 (off b3 (fun xs n z => ?_) fun z => ?_), b4, b5, b6⟩
      · rw [z, m1] at b3
        cases b3
        rw [dm] at b6
        cases b6
      · rw [z, t1] at b3
        cases b3
        cases b6
      · rw [b6] at z
        cases z
      · rw [b6] at z
        cases z
    · rw [z, t1] at m1
      cases m1
      cases dm
  have scr : SqL K H a (ns.map V.int) := by
    cases e : K.lookup a with
    | none => exact .inl (.inr ⟨_, by rw [← hH]; exact seen_scr aT e⟩)
    | some o =>
      have q := KX a o e
      rw [ha] at q
      cases q
      exact .inr ⟨_, vs.toArray, _, e, rfl, rfl, rfl, by rw [List.size_toArray, hi.length]; exact hl, by simpa using rv⟩
  have e0 : Env0 P w K mg (hidT s.heap H) callerA [] s H := by
    refine ⟨rfl, mod, fun b o e => of_hidT e, Nat.le_of_eq (hidT_size _ _), trivial, fun b z => ?_, hok, .of_eq hg⟩
    exact absurd z List.not_mem_nil
  have run := (F _ mod.kin mod.glob tb).run callerA [] s H ⟨[.ref a], []⟩ [.ref a] [.ref a] _ _ hr rfl e0 (hb s (.ref a)) (.cons rfl .nil) (hsp H (fun p hp => by rw [← hH]; exact seen_tab (mem p hp)) scr)
  refine codeAny_mono run fun r s' q => ?_
  cases r with
  | error e =>
    obtain ⟨_, _, _, _, _, _, _, _, _, _, _, _, z⟩ := q
    exact z.elim
  | ok fl =>
    cases fl with
    | next => exact q.elim
    | brk => exact q.elim
    | cont => exact q.elim
    | ret u =>
      obtain ⟨v, H', os, bare, un, ok', r', rfl⟩ := q
      obtain rfl : u = Value.bool true := r'
      refine ⟨rfl, ?_, os, bare⟩
      have each : ∀ b o, s.heap.get? b = some o → asItWas s.heap s'.heap b o ∧ ∃ o', s'.heap.get? b = some o' := fun b o e => by
        by_cases h1 : b ∈ ts
        · obtain ⟨t1, _, t3⟩ := tab b h1
          rw [e] at t1
          cases t1
          obtain ⟨more, z⟩ := un.tbls b #[] (by rw [← hH]; exact seen_tab h1)
          have z2 : s'.heap.get? b = some { cls := .none, data := .fields (#[] ++ more) } := ok' b _ z
          exact ⟨.inr (.inl ⟨t3, rfl, #[], more, rfl, z2⟩), _, z2⟩
        · have same : s'.heap.get? b = some o := by
            cases z : H b with
            | none => exact un.keep b o e z List.not_mem_nil List.not_mem_nil
            | some u =>
              have z0 := z
              rw [← hH] at z
              rcases seen_what z with ⟨h2, _⟩ | ⟨_, rfl, _, rfl⟩
              · exact absurd h2 h1
              · obtain ⟨q2, _⟩ := ok' b _ (un.frzs b _ _ z0)
                rw [ha] at e
                cases e
                exact q2
          exact ⟨.inl same, o, same⟩
      exact ⟨fun b o e => (each b o e).1, fun b o e => (each b o e).2⟩
end K24
/-! K24EN: what the top has written; the bundles; the law. Printed by gen_end.py. -/
namespace K24
open PySem PySem.Spec PyProof.Rows L2 LamX
abbrev P24 : Program := PySem.Challenge.pw_paperbest_k24_whole_entries_told_by_the
theorem errS_inv : ErrS P24 s_Inv_init := ⟨⟨_, _, _, _, _, _, _, _, _, _, _, _, rfl, fun env => ⟨_, rfl⟩⟩, ⟨_, rfl, rfl⟩, by decide +kernel, by decide +kernel, by decide +kernel, by decide +kernel, by decide +kernel, by decide +kernel, rfl, rfl, rfl, fun _ _ _ _ _ _ _ _ us hl => match us, hl with | [_, _], _ => rfl, by decide +kernel⟩
theorem errS_ref : ErrS P24 s_Ref_init := ⟨⟨_, _, _, _, _, _, _, _, _, _, _, _, rfl, fun env => ⟨_, rfl⟩⟩, ⟨_, rfl, rfl⟩, by decide +kernel, by decide +kernel, by decide +kernel, by decide +kernel, by decide +kernel, by decide +kernel, rfl, rfl, rfl, fun _ _ _ _ _ _ _ _ us hl => match us, hl with | [_, _], _ => rfl, by decide +kernel⟩
section
variable {K : PySem.W.Frag}
def FunI (K : PySem.W.Frag) (x : Str) (st : Stmt) : Prop := ∃ (f : Addr) (fd : FuncData), PySem.W.nsIn K mainGlobals x = some (some (.ref f)) ∧ Fun K x x st f fd
def MethI (K : PySem.W.Frag) (C : Addr) (m qual : Str) (st : Stmt) : Prop := ∃ (f : Addr) (fd : FuncData), Meth K C m f ∧ Fun K m qual st f fd
def PropI (K : PySem.W.Frag) (C : Addr) (m qual : Str) (st : Stmt) : Prop := ∃ (p f : Addr) (fd : FuncData), PropOf K C m p f ∧ Fun K m qual st f fd
/-- a def with lambdas: its code object and the table of that -/
structure LamI (K : PySem.W.Frag) (x : Str) (st : Stmt) (f c t : Addr) : Prop where
  ns : PySem.W.nsIn K mainGlobals x = some (some (.ref f))
  fn : ∃ fd : FuncData, FunC K x x st f fd c
  kp : PySem.W.keepIn K (.ref f) = true
  hd : PySem.W.codeHdIn K c t = true
  no : K.lookup t = none
section
variable {x m qual : Str} {st : Stmt} {f c t p C : Addr} {oc : Value} {od an : Option Addr} {osl : Array (Option Value)} {kV doc pm cdv ct : Value}
theorem funI_mk (a : PySem.W.nsIn K mainGlobals x = some (some (.ref f))) (l : K.lookup f = some ⟨oc, od, .func (PySem.W.fnOf x x (defArgs st) (defBody st) (defScope st) .none kV doc pm an cdv ct), osl⟩) (c : PySem.W.codeIn K cdv x = true) (k : PySem.W.keepIn K (.ref f) = true) : FunI K x st :=
  ⟨f, _, a, fun_mk l c k⟩
theorem methI_mk (a : PySem.W.findIn K (.ref C) m = some (some (.ref f))) (i : PySem.W.isFn K (.ref f) = true) (l : K.lookup f = some ⟨oc, od, .func (PySem.W.fnOf m qual (defArgs st) (defBody st) (defScope st) .none kV doc pm an cdv ct), osl⟩) (c : PySem.W.codeIn K cdv qual = true) (k : PySem.W.keepIn K (.ref f) = true) : MethI K C m qual st :=
  ⟨f, _, ⟨a, i, k⟩, fun_mk l c k⟩
theorem propI_mk {rest : List Value} (a : PySem.W.findIn K (.ref C) m = some (some (.ref p))) (g : PySem.W.specialIn K (.ref p) "__get__" = some (some (.builtin "property.__get__"))) (t : PySem.W.takesIn K (.ref p) = some true) (r : PySem.W.recIn K p "property" = some (.ref f :: rest)) (l : K.lookup f = some ⟨oc, od, .func (PySem.W.fnOf m qual (defArgs st) (defBody st) (defScope st) .none kV doc pm an cdv ct), osl⟩) (c : PySem.W.codeIn K cdv qual = true) (k : PySem.W.keepIn K (.ref f) = true) : PropI K C m qual st :=
  ⟨p, f, _, ⟨a, g, t, _, r⟩, fun_mk l c k⟩
theorem lamI_mk {e1 : Value} {e2 : Option Addr} {vs : Array Value} {e3 : Array (Option Value)} (a : PySem.W.nsIn K mainGlobals x = some (some (.ref f))) (l : K.lookup f = some ⟨oc, od, .func (PySem.W.fnOf x x (defArgs st) (defBody st) (defScope st) .none kV doc pm an (.ref c) ct), osl⟩) (cd : PySem.W.codeIn K (.ref c) x = true) (k : PySem.W.keepIn K (.ref f) = true) (lc : K.lookup c = some ⟨e1, e2, .fields vs, e3⟩) (lt : vs[11]? = some (.ref t)) (hd : PySem.W.codeHdIn K c t = true) (no : K.lookup t = none) : LamI K x st f c t :=
  ⟨a, ⟨_, oc, od, kV, doc, pm, an, ct, osl, rfl, l, cd⟩, k, hd, no⟩
theorem errC_mk {nm q : Str} {N fI cc cda : Addr} {bs bm sub : List Value} {sn : List Str} {ab : Bool} {col : Option Bool} {dd cld cdd : Option Addr} {k0 k1 k2 k3 k5 : Option Value} {cl ccl : Value} {csl ccs : Array (Option Value)} {vs : Array Value} {file : Str} {tf : Tok}
    (xl : K.lookup C = some (excClassObj nm q C N bs bm true sn sub ab col dd k0 k1 k2 k3 k5 "ValueError.__new__")) (rv : PySem.HandSPX.refsVE bm = true) (sa : PySem.W.findIn K (.ref C) "__setattr__" = some (some (.builtin "object.__setattr__"))) (exC : PySem.W.subIn K (.ref C) (.type "BaseException") = some true) (tyC : PySem.W.typeIn K (.ref C) = some (.type "type")) (kC : PySem.W.keepIn K (.ref C) = true)
    (iC : PySem.W.findIn K (.ref C) "__init__" = some (some (.ref fI))) (tI : PySem.W.typeIn K (.ref fI) = some (.type "function")) (lk : K.lookup fI = some ⟨oc, od, .func (PySem.W.ksFn "__init__" qual (defArgs st) (defBody st) (defScope st) .none kV doc pm an (.ref cda) ct cc), osl⟩) (cd : PySem.W.codeIn K (.ref cda) qual = true)
    (lc : K.lookup cda = some ⟨ccl, cdd, .fields vs, ccs⟩) (hv : vs[2]? = some (.str file tf)) (hf : ((P24.main.file : Str) == file) = true) (lcc : K.lookup cc = some ⟨cl, cld, .cell (some (.ref C)), csl⟩)
    (self : PySem.W.mroIn K C (.ref C) = some true) (sup : PySem.W.nsIn K mainGlobals "super" = some none) (opq : PySem.W.nsIn K cStatics "thirdparty.any" = some none) (up : PySem.W.ks_superIn K C C "__init__" = some (some (.builtin "ValueError.__init__"))) (su : PySem.W.subIn K (.ref C) (.type "ValueError") = some true) (noW : PySem.W.findIn K (.ref C) "word" = some none) : ErrC P24 K x qual st C where
  T := ⟨⟨nm, q, N, bs, bm, sn, sub, ab, col, dd, k0, k1, k2, k3, k5, xl, rv⟩, sa, exC, tyC, kC⟩
  all := ⟨fI, cc, cda, oc, cl, ccl, kV, doc, pm, ct, od, cld, cdd, an, osl, csl, ccs, vs, file, tf, lk, cd, lc, hv, hf, lcc, iC, tI⟩
  self := self
  sup := sup
  opq := opq
  up := up
  sub := su
  noW := noW
theorem zero_mk {z : Addr} {d : Option Addr} {t0 t1 : Tok} {n : Nat} {sl : Array (Option Value)} (h : K.lookup z = some ⟨.type "tuple", d, .seq #[.int 0 t0, .int 1 t1] n, sl⟩) : ∀ H, FrA K H z (0, 1) := fun H =>
  .inr ⟨_, _, _, h, rfl, rfl, Nat.le_trans (by decide : 2 ≤ 3) (by decide), .cons ⟨_, rfl⟩ (.cons ⟨_, rfl⟩ .nil)⟩
end
theorem tc_mk {K : PySem.W.Frag} {C : Addr} (pg : PySem.W.plainGet K C Str.empty = true) (hd : PySem.W.hasDictIn K C = true) (po : PySem.W.plainOver K C = true) (sa : PySem.W.findIn K (.ref C) "__setattr__" = some (some (.builtin "object.__setattr__"))) (n1 : PySem.W.findIn K (.ref C) "many" = some none) (n2 : PySem.W.findIn K (.ref C) "spans" = some none)
    (n3 : PySem.W.findIn K (.ref C) "held" = some none) (n4 : PySem.W.findIn K (.ref C) "table" = some none) (n5 : PySem.W.findIn K (.ref C) "unit" = some none) (n6 : PySem.W.findIn K (.ref C) "history" = some none) : TC K C := ⟨⟨pg, hd, po, sa⟩, n1, n2, n3, n4, n5, n6⟩
structure Facts (K : PySem.W.Frag) (C cI cR cT z fB cB tB fR rC tR fL cL tL : Addr) : Prop where
  aC : PySem.W.nsIn K mainGlobals "Tableau" = some (some (.ref C))
  aI : PySem.W.nsIn K mainGlobals "InvalidNumber" = some (some (.ref cI))
  aR : PySem.W.nsIn K mainGlobals "Refused" = some (some (.ref cR))
  aT : PySem.W.nsIn K mainGlobals "TaskError" = some (some (.ref cT))
  aZ : PySem.W.nsIn K mainGlobals "ZERO" = some (some (.ref z))
  tc : TC K C
  mk_ : PySem.W.makesIn K C = true
  kC : PySem.W.keepIn K (.ref C) = true
  fz : ∀ H, FrA K H z (0, 1)
  eI : ErrC P24 K "InvalidNumber" "InvalidNumber.__init__" s_Inv_init cI
  eR : ErrC P24 K "Refused" "Refused.__init__" s_Ref_init cR
  ii : PySem.W.exmOne K (.ref cI) (.ref cI) = some true
  ri : PySem.W.exmOne K (.ref cR) (.ref cI) = some false
  rr : PySem.W.exmOne K (.ref cR) (.ref cR) = some true
  xI : XfC K cI
  xR : XfC K cR
  xc : ExcC K cR
  x4 : XLw K cI cR cT
  b_abs_ : PySem.W.nsIn K mainGlobals "abs" = some none
  b_isinst : PySem.W.nsIn K mainGlobals "isinstance" = some none
  b_int_ : PySem.W.nsIn K mainGlobals "int" = some none
  b_bool_ : PySem.W.nsIn K mainGlobals "bool" = some none
  b_all_ : PySem.W.nsIn K mainGlobals "all" = some none
  b_len_ : PySem.W.nsIn K mainGlobals "len" = some none
  b_tuple_ : PySem.W.nsIn K mainGlobals "tuple" = some none
  b_list_ : PySem.W.nsIn K mainGlobals "list" = some none
  b_sorted_ : PySem.W.nsIn K mainGlobals "sorted" = some none
  b_enum_ : PySem.W.nsIn K mainGlobals "enumerate" = some none
  b_range_ : PySem.W.nsIn K mainGlobals "range" = some none
  b_repr_ : PySem.W.nsIn K mainGlobals "repr" = some none
  b_vErr : PySem.W.nsIn K mainGlobals "ValueError" = some none
  d_shared_divisor : FunI K "shared_divisor" s_shared_divisor
  d_fraction_of : FunI K "fraction_of" s_fraction_of
  d_is_integer : FunI K "is_integer" s_is_integer
  d_is_number : FunI K "is_number" s_is_number
  d_need_number : FunI K "need_number" s_need_number
  d_is_less : FunI K "is_less" s_is_less
  d_added : FunI K "added" s_added
  d_timed : FunI K "timed" s_timed
  d_whole : FunI K "whole" s_whole
  d_is_fraction : FunI K "is_fraction" s_is_fraction
  d_between_ends : FunI K "between_ends" s_between_ends
  d_are_crossed : FunI K "are_crossed" s_are_crossed
  l_factor : FunI K "_law_factor" s_l_factor
  l_low : FunI K "_law_low" s_l_low
  l_draw : FunI K "_law_draw" s_l_draw
  l_pick : FunI K "_law_pick" s_l_pick
  l_heap : FunI K "_law_heap" s_l_heap
  l_row : FunI K "_law_row" s_l_row
  l_determinant : FunI K "_law_determinant" s_l_determinant
  l_entry : FunI K "_law_entry" s_l_entry
  l_same : FunI K "_law_same" s_l_same
  l_entries_right : FunI K "_law_entries_right" s_l_entries_right
  l_wander : FunI K "_law_wander" s_l_wander
  l_led : FunI K "_law_led" s_l_led
  l_heard : FunI K "_law_heard" s_l_heard
  l_world_right : FunI K "_law_world_right" s_l_world_right
  m_add_row : MethI K C "add_row" "Tableau.add_row" s_Tab_add_row
  m_ends : MethI K C "ends" "Tableau.ends" s_Tab_ends
  m_value : MethI K C "value" "Tableau.value" s_Tab_value
  m_point : MethI K C "point" "Tableau.point" s_Tab_point
  m_check_pair : MethI K C "check_pair" "Tableau.check_pair" s_Tab_check_pair
  m_entry : MethI K C "entry" "Tableau.entry" s_Tab_entry
  m_row_at : MethI K C "row_at" "Tableau.row_at" s_Tab_row_at
  m_exchanged_row : MethI K C "exchanged_row" "Tableau.exchanged_row" s_Tab_exchanged_row
  m_exchange : MethI K C "exchange" "Tableau.exchange" s_Tab_exchange
  m_move : MethI K C "move" "Tableau.move" s_Tab_move
  m_give_ends : MethI K C "give_ends" "Tableau.give_ends" s_Tab_give_ends
  m_put_end : MethI K C "put_end" "Tableau.put_end" s_Tab_put_end
  m_init : MethI K C "__init__" "Tableau.__init__" s_Tab_init
  p_places : PropI K C "places" "Tableau.places" s_Tab_places
  p_basis : PropI K C "basis" "Tableau.basis" s_Tab_basis
  p_columns : PropI K C "columns" "Tableau.columns" s_Tab_columns
  lB : LamI K "_law_back_right" s_l_back_right fB cB tB
  lR : LamI K "_law_refusals_right" s_l_refusals_right fR rC tR
  lL : LamI K "law" s_law fL cL tL
  ne : tB ≠ tR ∧ tB ≠ tL ∧ tR ≠ tL
end
section
variable {P : Program} {w : World} {K : PySem.W.Frag} {mg : Str → Option Value} {base : Heap} {C : Addr} {x m qual : Str} {st : Stmt} {k : Nat} {ps : List Str} {sp : Sp}
theorem dn_mk (X : K.In base) (G : base.Ns mainGlobals mg) (I : FunI K x st) (hb : ∀ f fd, Fun K x x st f fd → Binds K fd ps []) (ok : ∀ f fd, Fun K x x st f fd → FnOk P w K mg base (L2.CX P w) k f fd ps sp) : Dn P w K mg base x k ps sp := by
  obtain ⟨f, fd, a, F⟩ := I
  exact ⟨f, fd, ok f fd F, PySem.W.mg_of X G a, F.kp, hb f fd F⟩
theorem dng_mk (X : K.In base) (G : base.Ns mainGlobals mg) (I : FunI K x st) (hb : ∀ f fd, Fun K x x st f fd → Binds K fd ps []) (ok : ∀ f fd, Fun K x x st f fd → FnG P w K mg base (L2.CX P w) k f fd ps sp) : DnG P w K mg base x k ps sp := by
  obtain ⟨f, fd, a, F⟩ := I
  exact ⟨f, fd, ok f fd F, PySem.W.mg_of X G a, F.kp, hb f fd F⟩
theorem dm_mk (c : Cls K C) (I : MethI K C m qual st) (hb : ∀ f fd, Fun K m qual st f fd → Binds K fd ps []) (ok : ∀ f fd, Fun K m qual st f fd → FnOk P w K mg base (L2.CX P w) k f fd ps sp) : Dm P w K mg base C m k ps sp := by
  obtain ⟨f, fd, a, F⟩ := I
  exact ⟨c, f, fd, ok f fd F, a, hb f fd F⟩
theorem dmk_mk {ks : List Str} {g : List Value → List Value → List Value} {gV : List V → List V → List V} (c : Cls K C) (I : MethI K C m qual st) (hb : ∀ f fd, Fun K m qual st f fd → KBinds K fd ps ks g gV) (ok : ∀ f fd, Fun K m qual st f fd → FnOk P w K mg base (L2.CX P w) k f fd ps sp) : Dmk P w K mg base C m k ps ks g gV sp := by
  obtain ⟨f, fd, a, F⟩ := I
  exact ⟨c, f, fd, ok f fd F, a, hb f fd F⟩
theorem dp_mk (c : Cls K C) (I : PropI K C m qual st) (hb : ∀ f fd, Fun K m qual st f fd → Binds K fd ["self"] []) (ok : ∀ f fd, Fun K m qual st f fd → FnOk P w K mg base (L2.CX P w) k f fd ["self"] sp) : Dp P w K mg base C m k sp := by
  obtain ⟨p, f, fd, a, F⟩ := I
  exact ⟨c, p, f, fd, ok f fd F, a, hb f fd F⟩
theorem dk_mk (X : K.In base) (G : base.Ns mainGlobals mg) (a : PySem.W.nsIn K mainGlobals x = some (some (.ref C))) (mk : PySem.W.makesIn K C = true) (kp : PySem.W.keepIn K (.ref C) = true) (I : MethI K C "__init__" qual st) (hb : ∀ f fd, Fun K "__init__" qual st f fd → Binds K fd ps []) (ok : ∀ f fd, Fun K "__init__" qual st f fd → FnOk P w K mg base (L2.CX P w) k f fd ps sp) : Dk P w K mg base x C k ps sp := by
  obtain ⟨f, fd, i, F⟩ := I
  exact ⟨f, fd, ok f fd F, ⟨mk, i.at_, i.fn, kp⟩, PySem.W.mg_of X G a, hb f fd F⟩
theorem dng_lam (X : K.In base) (G : base.Ns mainGlobals mg) {f c t : Addr} (I : LamI K x st f c t) (hb : ∀ fd, FunC K x x st f fd c → Binds K fd ps []) (ok : ∀ fd, FunC K x x st f fd c → FnG P w K mg base (L2.CX P w) k f fd ps sp) : DnG P w K mg base x k ps sp := by
  obtain ⟨fd, F⟩ := I.fn
  exact ⟨f, fd, ok fd F, PySem.W.mg_of X G I.ns, I.kp, hb fd F⟩
theorem FunC.binds {f c : Addr} {fd : FuncData} (F : FunC K x qual st f fd c) (h : ∀ (kV doc pm : Value) (an : Option Addr) (cdv ct : Value) (us : List Value), us.length = ps.length → bindArgs (PySem.W.fnOf x qual (defArgs st) (defBody st) (defScope st) .none kV doc pm an cdv ct) ⟨us, []⟩ = pure (ps.zip us)) : Binds K fd ps [] := by
  obtain ⟨oc, od, kV, doc, pm, an, ct, osl, rfl, lk, hcd⟩ := F.ex
  exact .all (h kV doc pm an _ ct)
def gRow : List Value → List Value → List Value
  | [x], [y] => [x, y]
  | _, _ => []
def gRowV : List V → List V → List V
  | [x], [y] => [x, y]
  | _, _ => []
def gEx : List Value → List Value → List Value
  | [x], [y, z] => [x, z, y]
  | _, _ => []
def gExV : List V → List V → List V
  | [x], [y, z] => [x, z, y]
  | _, _ => []
theorem vals_row {us vs : List V} {ws zs : List Value} (h : Vals us ws) (h2 : Vals vs zs) : Vals (gRowV us vs) (gRow ws zs) := by
  cases h with
  | nil => exact .nil
  | cons a t =>
    cases t with
    | cons _ _ => exact .nil
    | nil =>
      cases h2 with
      | nil => exact .nil
      | cons b t2 =>
        cases t2 with
        | cons _ _ => exact .nil
        | nil => exact .cons a (.cons b .nil)
theorem vals_ex {us vs : List V} {ws zs : List Value} (h : Vals us ws) (h2 : Vals vs zs) : Vals (gExV us vs) (gEx ws zs) := by
  cases h with
  | nil => exact .nil
  | cons a t =>
    cases t with
    | cons _ _ => exact .nil
    | nil =>
      cases h2 with
      | nil => exact .nil
      | cons b t2 =>
        cases t2 with
        | nil => exact .nil
        | cons c t3 =>
          cases t3 with
          | cons _ _ => exact .nil
          | nil => exact .cons a (.cons c (.cons b .nil))
theorem kb_row {s : Shared} {kV doc pm cdv ct : Value} {an : Option Addr} {us ws : List Value} (hl : (gRow us ws).length = (["self", "place"] : List Str).length) :
    BindsTo s (PySem.W.fnOf "row_at" "Tableau.row_at" (defArgs s_Tab_row_at) (defBody s_Tab_row_at) (defScope s_Tab_row_at) .none kV doc pm an cdv ct) ⟨us, (["place"] : List Str).zip ws⟩ ((["self", "place"] : List Str).zip (gRow us ws)) :=
  match us, ws, hl with
  | [x], [y], _ => .of_eq rfl
theorem kb_ex {s : Shared} {kV doc pm cdv ct : Value} {an : Option Addr} {us ws : List Value} (hl : (gEx us ws).length = (["self", "place", "column"] : List Str).length) :
    BindsTo s (PySem.W.fnOf "exchange" "Tableau.exchange" (defArgs s_Tab_exchange) (defBody s_Tab_exchange) (defScope s_Tab_exchange) .none kV doc pm an cdv ct) ⟨us, (["column", "place"] : List Str).zip ws⟩ ((["self", "place", "column"] : List Str).zip (gEx us ws)) :=
  match us, ws, hl with
  | [x], [y, z], _ => .of_eq rfl
theorem law_all {C cI cR cT z fB cB tB fR rC tR fL cL tL : Addr} (FA : Facts K C cI cR cT z fB cB tB fR rC tR fL cL tL) {fdL : FuncData} (FL : FunC K "law" "law" s_law fL fdL cL) (X : K.In base) (G : base.Ns mainGlobals mg) (TB : TabB base mg cB tB) (TR : TabB base mg rC tR) (TL : TabB base mg cL tL) :
    FnG P24 w K mg base (L2.CX P24 w) 10 fL fdL ["_law_script"] (spLaw K [(tB, qBk fB cB), (tR, qRf fR rC), (tL, qLw fL cL)]) := by
  have Z : Bz mg := ⟨PySem.W.mg_none_of X G FA.b_abs_, PySem.W.mg_none_of X G FA.b_isinst, PySem.W.mg_none_of X G FA.b_int_, PySem.W.mg_none_of X G FA.b_bool_, PySem.W.mg_none_of X G FA.b_all_, PySem.W.mg_none_of X G FA.b_len_, PySem.W.mg_none_of X G FA.b_tuple_, PySem.W.mg_none_of X G FA.b_list_, PySem.W.mg_none_of X G FA.b_sorted_, PySem.W.mg_none_of X G FA.b_enum_, PySem.W.mg_none_of X G FA.b_range_, PySem.W.mg_none_of X G FA.b_repr_, PySem.W.mg_none_of X G FA.b_vErr⟩
  have tc := FA.tc
  have Z0 : ZE K mg z := ⟨PySem.W.mg_of X G FA.aZ, FA.fz⟩
  have DI_ : De P24 w K mg base "InvalidNumber" cI := ⟨FA.eI.T, PySem.W.mg_of X G FA.aI, ok_err errS_inv FA.eI⟩
  have DR_ : De P24 w K mg base "Refused" cR := ⟨FA.eR.T, PySem.W.mg_of X G FA.aR, ok_err errS_ref FA.eR⟩
  have Tw : Two P24 w K mg base cI cR := ⟨PySem.W.mg_of X G FA.aI, PySem.W.mg_of X G FA.aR, FA.ii, FA.ri, FA.rr, FA.xI, FA.xR, FA.eI.noW, FA.eR.noW⟩
  have D_shared_divisor : Dn P24 w K mg base "shared_divisor" 1 ["one", "other"] spGcd := dn_mk X G FA.d_shared_divisor (fun f fd F => F.binds (ps := ["one", "other"]) fun _ _ _ _ _ _ us hl => match us, hl with | [_, _], _ => rfl) (fun f fd F => ok_shared_divisor F Z)
  have D_fraction_of : Dn P24 w K mg base "fraction_of" 2 ["top", "bottom"] spFrac := dn_mk X G FA.d_fraction_of (fun f fd F => F.binds (ps := ["top", "bottom"]) fun _ _ _ _ _ _ us hl => match us, hl with | [_, _], _ => rfl) (fun f fd F => ok_fraction_of F ⟨D_shared_divisor⟩)
  have D_is_integer : Dn P24 w K mg base "is_integer" 1 ["value"] (spIsInt K) := dn_mk X G FA.d_is_integer (fun f fd F => F.binds (ps := ["value"]) fun _ _ _ _ _ _ us hl => match us, hl with | [_], _ => rfl) (fun f fd F => ok_is_integer F Z)
  have D_is_number : Dn P24 w K mg base "is_number" 2 ["value"] (spIsNum K) := dn_mk X G FA.d_is_number (fun f fd F => F.binds (ps := ["value"]) fun _ _ _ _ _ _ us hl => match us, hl with | [_], _ => rfl) (fun f fd F => ok_is_number F ⟨D_is_integer⟩)
  have D_need_number : Dn P24 w K mg base "need_number" 3 ["value", "most", "word"] (spNeed K cI) := dn_mk X G FA.d_need_number (fun f fd F => F.binds (ps := ["value", "most", "word"]) fun _ _ _ _ _ _ us hl => match us, hl with | [_, _, _], _ => rfl) (fun f fd F => ok_need_number F ⟨D_is_number, DI_, DR_⟩)
  have D_is_less : Dn P24 w K mg base "is_less" 1 ["one", "other"] (spLess K) := dn_mk X G FA.d_is_less (fun f fd F => F.binds (ps := ["one", "other"]) fun _ _ _ _ _ _ us hl => match us, hl with | [_, _], _ => rfl) (fun f fd F => ok_is_less F)
  have D_added : Dn P24 w K mg base "added" 3 ["one", "other"] (spF2 K addF) := dn_mk X G FA.d_added (fun f fd F => F.binds (ps := ["one", "other"]) fun _ _ _ _ _ _ us hl => match us, hl with | [_, _], _ => rfl) (fun f fd F => ok_added F ⟨D_fraction_of⟩)
  have D_timed : Dn P24 w K mg base "timed" 3 ["one", "other"] (spF2 K mulF) := dn_mk X G FA.d_timed (fun f fd F => F.binds (ps := ["one", "other"]) fun _ _ _ _ _ _ us hl => match us, hl with | [_, _], _ => rfl) (fun f fd F => ok_timed F ⟨D_fraction_of⟩)
  have D_whole : Dn P24 w K mg base "whole" 1 ["number"] spWhole := dn_mk X G FA.d_whole (fun f fd F => F.binds (ps := ["number"]) fun _ _ _ _ _ _ us hl => match us, hl with | [_], _ => rfl) (fun f fd F => ok_whole F)
  have D_is_fraction : Dn P24 w K mg base "is_fraction" 2 ["value"] (spIsFr K) := dn_mk X G FA.d_is_fraction (fun f fd F => F.binds (ps := ["value"]) fun _ _ _ _ _ _ us hl => match us, hl with | [_], _ => rfl) (fun f fd F => ok_is_fraction F ⟨D_is_integer, D_shared_divisor⟩ Z)
  have D_between_ends : Dn P24 w K mg base "between_ends" 2 ["value", "ends"] (spBetw K) := dn_mk X G FA.d_between_ends (fun f fd F => F.binds (ps := ["value", "ends"]) fun _ _ _ _ _ _ us hl => match us, hl with | [_, _], _ => rfl) (fun f fd F => ok_between_ends F ⟨D_is_less⟩)
  have D_are_crossed : Dn P24 w K mg base "are_crossed" 2 ["ends"] (spCross K) := dn_mk X G FA.d_are_crossed (fun f fd F => F.binds (ps := ["ends"]) fun _ _ _ _ _ _ us hl => match us, hl with | [_], _ => rfl) (fun f fd F => ok_are_crossed F ⟨D_is_less⟩)
  have P_places : Dp P24 w K mg base C "places" 1 (spPlaces K C) := dp_mk tc.cl FA.p_places (fun f fd F => F.binds (ps := ["self"]) fun _ _ _ _ _ _ us hl => match us, hl with | [_], _ => rfl) (fun f fd F => ok_places F tc Z)
  have P_basis : Dp P24 w K mg base C "basis" 1 (spKeys K C Tab.basis) := dp_mk tc.cl FA.p_basis (fun f fd F => F.binds (ps := ["self"]) fun _ _ _ _ _ _ us hl => match us, hl with | [_], _ => rfl) (fun f fd F => ok_basis F tc Z)
  have P_columns : Dp P24 w K mg base C "columns" 1 (spKeys K C Tab.cols) := dp_mk tc.cl FA.p_columns (fun f fd F => F.binds (ps := ["self"]) fun _ _ _ _ _ _ us hl => match us, hl with | [_], _ => rfl) (fun f fd F => ok_columns F tc Z)
  have M_ends : Dm P24 w K mg base C "ends" 4 ["self", "place"] (spEnds K C cI) := dm_mk tc.cl FA.m_ends (fun f fd F => F.binds (ps := ["self", "place"]) fun _ _ _ _ _ _ us hl => match us, hl with | [_, _], _ => rfl) (fun f fd F => ok_ends F tc Z ⟨D_need_number⟩)
  have M_check_pair : Dm P24 w K mg base C "check_pair" 3 ["self", "place", "column"] (spCheck K C cR) := dm_mk tc.cl FA.m_check_pair (fun f fd F => F.binds (ps := ["self", "place", "column"]) fun _ _ _ _ _ _ us hl => match us, hl with | [_, _, _], _ => rfl) (fun f fd F => ok_check_pair F tc ⟨D_is_number, DI_, DR_⟩)
  have M_entry : Dm P24 w K mg base C "entry" 4 ["self", "place", "column"] (spEntry K C cR) := dm_mk tc.cl FA.m_entry (fun f fd F => F.binds (ps := ["self", "place", "column"]) fun _ _ _ _ _ _ us hl => match us, hl with | [_, _, _], _ => rfl) (fun f fd F => ok_entry F tc ⟨M_check_pair, D_fraction_of⟩)
  have M_value : Dm P24 w K mg base C "value" 4 ["self", "place"] (spValue K C cI) := dm_mk tc.cl FA.m_value (fun f fd F => F.binds (ps := ["self", "place"]) fun _ _ _ _ _ _ us hl => match us, hl with | [_, _], _ => rfl) (fun f fd F => ok_value F tc Z Z0 ⟨D_need_number, D_added, D_timed, D_whole, D_fraction_of⟩)
  have M_point : Dm P24 w K mg base C "point" 5 ["self"] (spPoint K C) := dm_mk tc.cl FA.m_point (fun f fd F => F.binds (ps := ["self"]) fun _ _ _ _ _ _ us hl => match us, hl with | [_], _ => rfl) (fun f fd F => ok_point F tc Z ⟨M_value⟩)
  have M_row_at : Dm P24 w K mg base C "row_at" 3 ["self", "place"] (spRowAt K C cR) := dm_mk tc.cl FA.m_row_at (fun f fd F => F.binds (ps := ["self", "place"]) fun _ _ _ _ _ _ us hl => match us, hl with | [_, _], _ => rfl) (fun f fd F => ok_row_at (cI := cI) F tc Z ⟨D_is_number, DR_, P_columns, D_fraction_of⟩)
  have M_exchanged_row : Dm P24 w K mg base C "exchanged_row" 1 ["self", "row", "pivot_row", "place", "column"] (spExRow C) := dm_mk tc.cl FA.m_exchanged_row (fun f fd F => F.binds (ps := ["self", "row", "pivot_row", "place", "column"]) fun _ _ _ _ _ _ us hl => match us, hl with | [_, _, _, _, _], _ => rfl) (fun f fd F => ok_exchanged_row F tc)
  have M_exchange : Dm P24 w K mg base C "exchange" 5 ["self", "place", "column"] (spExch K C cR) := dm_mk tc.cl FA.m_exchange (fun f fd F => F.binds (ps := ["self", "place", "column"]) fun _ _ _ _ _ _ us hl => match us, hl with | [_, _, _], _ => rfl) (fun f fd F => ok_exchange F tc Z ⟨M_check_pair, M_value, M_exchanged_row, D_between_ends, DR_⟩)
  have M_move : Dm P24 w K mg base C "move" 3 ["self", "column", "value"] (spMove K C cI cR) := dm_mk tc.cl FA.m_move (fun f fd F => F.binds (ps := ["self", "column", "value"]) fun _ _ _ _ _ _ us hl => match us, hl with | [_, _, _], _ => rfl) (fun f fd F => ok_move F tc ⟨D_is_number, D_is_fraction, DR_, DI_⟩)
  have M_give_ends : Dm P24 w K mg base C "give_ends" 3 ["self", "place", "ends"] (spGive K C) := dm_mk tc.cl FA.m_give_ends (fun f fd F => F.binds (ps := ["self", "place", "ends"]) fun _ _ _ _ _ _ us hl => match us, hl with | [_, _, _], _ => rfl) (fun f fd F => ok_give_ends F tc ⟨D_between_ends⟩)
  have M_put_end : Dm P24 w K mg base C "put_end" 4 ["self", "place", "side", "value"] (spPut K C) := dm_mk tc.cl FA.m_put_end (fun f fd F => F.binds (ps := ["self", "place", "side", "value"]) fun _ _ _ _ _ _ us hl => match us, hl with | [_, _, _, _], _ => rfl) (fun f fd F => ok_put_end F tc Z ⟨D_need_number, D_are_crossed, M_give_ends, D_is_fraction⟩)
  have M_add_row : Dm P24 w K mg base C "add_row" 2 ["self", "row"] (spAdd K C) := dm_mk tc.cl FA.m_add_row (fun f fd F => F.binds (ps := ["self", "row"]) fun _ _ _ _ _ _ us hl => match us, hl with | [_, _], _ => rfl) (fun f fd F => ok_add_row F tc Z ⟨D_whole⟩)
  have K_Tab : Dk P24 w K mg base "Tableau" C 3 ["self", "rows", "box"] (spInit K C) := dk_mk X G FA.aC FA.mk_ FA.kC FA.m_init (fun f fd F => F.binds (ps := ["self", "rows", "box"]) fun _ _ _ _ _ _ us hl => match us, hl with | [_, _, _], _ => rfl) (fun f fd F => ok_init F tc Z Z0 ⟨D_whole, D_between_ends, M_add_row⟩)
  have N_row : Dmk P24 w K mg base C "row_at" 3 ["self", "place"] ["place"] gRow gRowV (spRowAt K C cR) := dmk_mk tc.cl FA.m_row_at (fun f fd F => by
    obtain ⟨oc, od, kV, doc, pm, an, cdv, ct, osl, rfl, lk, hcd⟩ := F.ex
    exact ⟨fun s us ws _ hl => kb_row hl, fun h1 h2 => vals_row h1 h2⟩) (fun f fd F => ok_row_at (cI := cI) F tc Z ⟨D_is_number, DR_, P_columns, D_fraction_of⟩)
  have N_ex : Dmk P24 w K mg base C "exchange" 5 ["self", "place", "column"] ["column", "place"] gEx gExV (spExch K C cR) := dmk_mk tc.cl FA.m_exchange (fun f fd F => by
    obtain ⟨oc, od, kV, doc, pm, an, cdv, ct, osl, rfl, lk, hcd⟩ := F.ex
    exact ⟨fun s us ws _ hl => kb_ex hl, fun h1 h2 => vals_ex h1 h2⟩) (fun f fd F => ok_exchange F tc Z ⟨M_check_pair, M_value, M_exchanged_row, D_between_ends, DR_⟩)
  have L_factor : Dn P24 w K mg base "_law_factor" 1 ["_law_one", "_law_other"] spGcd := dn_mk X G FA.l_factor (fun f fd F => F.binds (ps := ["_law_one", "_law_other"]) fun _ _ _ _ _ _ us hl => match us, hl with | [_, _], _ => rfl) (fun f fd F => ok_l_factor F Z)
  have L_low : Dn P24 w K mg base "_law_low" 2 ["_law_top", "_law_bottom"] spFrac := dn_mk X G FA.l_low (fun f fd F => F.binds (ps := ["_law_top", "_law_bottom"]) fun _ _ _ _ _ _ us hl => match us, hl with | [_, _], _ => rfl) (fun f fd F => ok_l_low F Z ⟨L_factor⟩)
  have L_draw : Dn P24 w K mg base "_law_draw" 1 ["_law_heap_here", "_law_many"] (spDraw ()) := dn_mk X G FA.l_draw (fun f fd F => F.binds (ps := ["_law_heap_here", "_law_many"]) fun _ _ _ _ _ _ us hl => match us, hl with | [_, _], _ => rfl) (fun f fd F => ok_l_draw F Z)
  have L_pick : Dn P24 w K mg base "_law_pick" 2 ["_law_heap_here", "_law_some"] (spPick K) := dn_mk X G FA.l_pick (fun f fd F => F.binds (ps := ["_law_heap_here", "_law_some"]) fun _ _ _ _ _ _ us hl => match us, hl with | [_, _], _ => rfl) (fun f fd F => ok_l_pick F Z ⟨L_draw, trivial⟩)
  have L_heap : Dn P24 w K mg base "_law_heap" 1 ["_law_script"] (spHeap K) := dn_mk X G FA.l_heap (fun f fd F => F.binds (ps := ["_law_script"]) fun _ _ _ _ _ _ us hl => match us, hl with | [_], _ => rfl) (fun f fd F => ok_l_heap F Z)
  have L_row : Dn P24 w K mg base "_law_row" 3 ["_law_heap_here", "_law_size"] (spRow K) := dn_mk X G FA.l_row (fun f fd F => F.binds (ps := ["_law_heap_here", "_law_size"]) fun _ _ _ _ _ _ us hl => match us, hl with | [_, _], _ => rfl) (fun f fd F => ok_l_row F Z ⟨L_draw, L_pick⟩)
  have L_determinant : Dn P24 w K mg base "_law_determinant" 5 ["_law_lines"] (spDetA K) := by
    obtain ⟨f, fd, a, F⟩ := FA.l_determinant
    have hb : Binds K fd ["_law_lines"] [] := F.binds (ps := ["_law_lines"]) fun _ _ _ _ _ _ us hl => match us, hl with | [_], _ => rfl
    exact ⟨f, fd, ok_detA F Z (PySem.W.mg_of X G a) F.kp hb, PySem.W.mg_of X G a, F.kp, hb⟩
  have L_entry : Dn P24 w K mg base "_law_entry" 6 ["_law_forms", "_law_columns", "_law_place", "_law_column"] (spLEntry K) := dn_mk X G FA.l_entry (fun f fd F => F.binds (ps := ["_law_forms", "_law_columns", "_law_place", "_law_column"]) fun _ _ _ _ _ _ us hl => match us, hl with | [_, _, _, _], _ => rfl) (fun f fd F => ok_l_entry F ⟨L_determinant, L_low⟩)
  have L_same : DnG P24 w K mg base "_law_same" 1 ["_law_told", "_law_due"] (spSame K) := dng_mk X G FA.l_same (fun f fd F => F.binds (ps := ["_law_told", "_law_due"]) fun _ _ _ _ _ _ us hl => match us, hl with | [_, _], _ => rfl) (fun f fd F => ok_l_same F Z)
  have L_entries_right : DnG P24 w K mg base "_law_entries_right" 7 ["_law_table", "_law_forms"] (spERight K C) := dng_mk X G FA.l_entries_right (fun f fd F => F.binds (ps := ["_law_table", "_law_forms"]) fun _ _ _ _ _ _ us hl => match us, hl with | [_, _], _ => rfl) (fun f fd F => ok_l_entries_right F tc Z ⟨P_basis, P_columns, M_entry, L_determinant, L_entry, L_same⟩)
  have L_wander : Dn P24 w K mg base "_law_wander" 6 ["_law_heap_here", "_law_table", "_law_turns"] (spWander K C) := dn_mk X G FA.l_wander (fun f fd F => F.binds (ps := ["_law_heap_here", "_law_table", "_law_turns"]) fun _ _ _ _ _ _ us hl => match us, hl with | [_, _, _], _ => rfl) (fun f fd F => ok_l_wander F tc Z ⟨P_basis, P_columns, M_entry, M_exchange, L_pick⟩)
  have L_led : Dn P24 w K mg base "_law_led" 6 ["_law_table", "_law_goal"] (spLed K C) := dn_mk X G FA.l_led (fun f fd F => F.binds (ps := ["_law_table", "_law_goal"]) fun _ _ _ _ _ _ us hl => match us, hl with | [_, _], _ => rfl) (fun f fd F => ok_l_led F tc Z ⟨P_basis, M_entry, M_exchange⟩)
  obtain ⟨fH, fdH, aH, FH⟩ := FA.l_heard
  have mH := PySem.W.mg_of X G aH
  obtain ⟨n1, n2, n3⟩ := FA.ne
  have L_back : DnG P24 w K mg base "_law_back_right" 8 ["_law_heap_here", "_law_table"] (spBack K C [(tB, qBk fB cB), (tR, qRf fR rC), (tL, qLw fL cL)]) := dng_lam X G FA.lB (fun fd F => F.binds (ps := ["_law_heap_here", "_law_table"]) fun _ _ _ _ _ _ us hl => match us, hl with | [_, _], _ => rfl) (fun fd F => ok_l_back_right F tc Z ⟨P_basis, P_columns, L_pick, L_low, M_entry, M_row_at, M_exchange, M_point⟩ FH mH Tw TB (by simp) (fun p hp e => by
    simp only [List.mem_cons, List.not_mem_nil, or_false] at hp
    rcases hp with rfl | rfl | rfl
    · rfl
    · exact absurd e.symm n1
    · exact absurd e.symm n2))
  have L_refuse : DnG P24 w K mg base "_law_refusals_right" 8 ["_law_heap_here", "_law_table"] (spRefuse K C [(tB, qBk fB cB), (tR, qRf fR rC), (tL, qLw fL cL)]) := dng_lam X G FA.lR (fun fd F => F.binds (ps := ["_law_heap_here", "_law_table"]) fun _ _ _ _ _ _ us hl => match us, hl with | [_, _], _ => rfl) (fun fd F => ok_l_refusals_right F tc Z ⟨P_basis, P_columns, P_places, L_pick, M_entry, M_row_at, M_exchange, M_move, M_value, M_ends⟩ FH mH Tw TR (by simp) (fun p hp e => by
    simp only [List.mem_cons, List.not_mem_nil, or_false] at hp
    rcases hp with rfl | rfl | rfl
    · exact absurd e n1
    · rfl
    · exact absurd e.symm n3))
  have L_world_right : DnG P24 w K mg base "_law_world_right" 9 ["_law_heap_here", "_law_turns"] (spWorld K [(tB, qBk fB cB), (tR, qRf fR rC), (tL, qLw fL cL)]) := dng_mk X G FA.l_world_right (fun f fd F => F.binds (ps := ["_law_heap_here", "_law_turns"]) fun _ _ _ _ _ _ us hl => match us, hl with | [_, _], _ => rfl) (fun f fd F => ok_l_world_right F tc Z (fun _ _ => rfl) ⟨L_pick, L_draw, L_row, K_Tab, M_add_row, M_put_end, L_wander, L_entries_right, P_basis, L_led, M_row_at, N_row, L_back, L_refuse⟩)
  exact ok_law FL tc Z (fun _ _ _ => rfl) ⟨L_heap, L_world_right, K_Tab, M_exchange, N_ex, M_entry, M_row_at⟩ FH mH Tw TL (by simp) (fun p hp e => by
    simp only [List.mem_cons, List.not_mem_nil, or_false] at hp
    rcases hp with rfl | rfl | rfl
    · exact absurd e n2
    · exact absurd e n3
    · rfl) FA.xc (PySem.W.mg_of X G FA.aT) (PySem.W.mg_of X G FA.aR) (PySem.W.mg_of X G FA.aI) FA.x4
end
theorem walk24 {q : Program} {loose : List Str} {XP : (Str → Option Value) → Heap → Prop} {d : DefRec} {K : Params → PySem.W.Frag} {as ts : List Addr} {e : ∀ P, as = (K P).map (·.1)} (hdf : d.params.defaults = []) (hdn : d.name = "law")
    (FA : ∀ w : World, ∃ C cI cR cT z fB cB tB fR rC tR fL cL tL, Facts (K w.params) C cI cR cT z fB cB tB fR rC tR fL cL tL ∧ tB ∈ ts ∧ tR ∈ ts ∧ tL ∈ ts) :
    PySem.W.WalkO q loose XP (PySem.W.kmHook K as e ts).says PySem.Challenge.rw_paperbest_k24_whole_entries_told_by_the.row.toRowW d [] (fun f vs => PySem.call f vs) := by
  refine Att.attach_callB (n := 63) rfl hdf fun w s₀ s₁ mg mb fa o pm cd doc a vs ns G Y ho hd hcd hmg hobj hints hlen hbits hg => ?_
  have KX := PySem.W.km_in_of Y
  have KT := PySem.W.km_tabs_of Y
  obtain ⟨C, cI, cR, cT, z, fB, cB, tB, fR, rC, tR, fL, cL, tL, FA, hB, hR, hL⟩ := FA w
  rw [hdn] at hmg
  have ef := hmg.symm.trans (PySem.W.mg_of KX G.T.g FA.lL.ns)
  cases ef
  obtain ⟨fd, FL⟩ := FA.lL.fn
  have eb : ∀ (s : Shared) (u : Value), BindsTo s fd ⟨[u], []⟩ [("_law_script", u)] := fun s u => by
    obtain ⟨oc, od, kV, doc, pm, an, ct, osl, rfl, lk, hcd⟩ := FL.ex
    exact .of_eq rfl
  refine law_callG (k := 10) (sp := spLaw (K w.params) [(tB, qBk fB cB), (tR, qRf fR rC), (tL, qLw fa cL)]) (cs := [(cB, tB), (rC, tR), (cL, tL)]) KX G.T.g G.T.b G.T.builtins G.T.nolimit hg (fun p hp => ?_) G.T.bmain hobj hints (Nat.le_trans hlen (by decide : 63 ≤ sizeLine)) ⟨rfl, by decide, by decide⟩
    (fun base X' G' T' => law_all FA FL X' G' (T' (cB, tB) (by simp)) (T' (rC, tR) (by simp)) (T' (cL, tL) (by simp))) eb (fun H hT hS => ⟨a, ns, rfl, hS, hlen, fun p hp => ?_, fun _ => rfl⟩)
  · simp only [List.mem_cons, List.not_mem_nil, or_false] at hp
    rcases hp with rfl | rfl | rfl
    · exact ⟨KT _ hB, FA.lB.no, PySem.W.codeHd_of_K KX FA.lB.hd⟩
    · exact ⟨KT _ hR, FA.lR.no, PySem.W.codeHd_of_K KX FA.lR.hd⟩
    · exact ⟨KT _ hL, FA.lL.no, PySem.W.codeHd_of_K KX FA.lL.hd⟩
  · simp only [List.mem_cons, List.not_mem_nil, or_false] at hp
    rcases hp with rfl | rfl | rfl
    · exact .nil (hT (cB, tB) (by simp))
    · exact .nil (hT (rC, tR) (by simp))
    · exact .nil (hT (cL, tL) (by simp))
end K24
set_option maxHeartbeats 0
open_top head for PySem.Challenge.rw_paperbest_k24_whole_entries_told_by_the
open PySem PySem.W PyProof.Rows
set_option maxRecDepth 100000 in
set_option maxHeartbeats 0 in
theorem PySem.Challenge.cw_paperbest_k24_whole_entries_told_by_the_holds : PySem.Challenge.rw_paperbest_k24_whole_entries_told_by_the.Holds := by
  refine head ?_
  k_fill
  refine K24.walk24 rfl rfl fun w => ?_
  refine' ⟨?C, ?cI, ?cR, ?cT, ?z, ?fB, ?cB, ?tB, ?fR, ?rC, ?tR, ?fL, ?cL, ?tL, ⟨?aC, ?aI, ?aR, ?aT, ?aZ, ?tc, ?mk_, ?kC, ?fz, ?eI, ?eR, ?ii, ?ri, ?rr, ?xI, ?xR, ?xc, ?x4, ?b_abs_, ?b_isinst, ?b_int_, ?b_bool_, ?b_all_, ?b_len_, ?b_tuple_, ?b_list_, ?b_sorted_, ?b_enum_, ?b_range_, ?b_repr_, ?b_vErr, ?d_shared_divisor, ?d_fraction_of, ?d_is_integer, ?d_is_number, ?d_need_number, ?d_is_less, ?d_added, ?d_timed, ?d_whole, ?d_is_fraction, ?d_between_ends, ?d_are_crossed, ?l_factor, ?l_low, ?l_draw, ?l_pick, ?l_heap, ?l_row, ?l_determinant, ?l_entry, ?l_same, ?l_entries_right, ?l_wander, ?l_led, ?l_heard, ?l_world_right, ?m_add_row, ?m_ends, ?m_value, ?m_point, ?m_check_pair, ?m_entry, ?m_row_at, ?m_exchanged_row, ?m_exchange, ?m_move, ?m_give_ends, ?m_put_end, ?m_init, ?p_places, ?p_basis, ?p_columns, ?lB, ?lR, ?lL, ?ne⟩, ?t1, ?t2, ?t3⟩
  (case aC => k_is)
  (case aI => k_is)
  (case aR => k_is)
  (case aT => k_is)
  (case aZ => k_is)
  (case mk_ => k_is)
  (case kC => k_is)
  (case b_abs_ => k_is)
  (case b_isinst => k_is)
  (case b_int_ => k_is)
  (case b_bool_ => k_is)
  (case b_all_ => k_is)
  (case b_len_ => k_is)
  (case b_tuple_ => k_is)
  (case b_list_ => k_is)
  (case b_sorted_ => k_is)
  (case b_enum_ => k_is)
  (case b_range_ => k_is)
  (case b_repr_ => k_is)
  (case b_vErr => k_is)
  (case tc => refine' K24.tc_mk ?a1 ?a2 ?a3 ?a4 ?a5 ?a6 ?a7 ?a8 ?a9 ?a10; (case a1 => k_is); (case a2 => k_is); (case a3 => k_is); (case a4 => k_is); (case a5 => k_is); (case a6 => k_is); (case a7 => k_is); (case a8 => k_is); (case a9 => k_is); (case a10 => k_is))
  (case fz => refine' K24.zero_mk ?h; (case h => k_is))
  (case eI => refine' K24.errC_mk ?xl ?rv ?sa ?exC ?tyC ?kC ?iC ?tI ?lk ?cd ?lc ?hv ?hf ?lcc ?self ?sup ?opq ?up ?su ?noW; (case xl => k_is); (case rv => decide +kernel); (case sa => k_is); (case exC => k_is); (case tyC => k_is); (case kC => k_is); (case iC => k_is); (case tI => k_is); (case lk => k_is); (case cd => k_is); (case lc => k_is); (case hv => exact rfl); (case hf => decide +kernel); (case lcc => k_is); (case self => k_is); (case sup => k_is); (case opq => k_is); (case up => kernel_rfl); (case su => k_is); (case noW => k_is))
  (case eR => refine' K24.errC_mk ?xl ?rv ?sa ?exC ?tyC ?kC ?iC ?tI ?lk ?cd ?lc ?hv ?hf ?lcc ?self ?sup ?opq ?up ?su ?noW; (case xl => k_is); (case rv => decide +kernel); (case sa => k_is); (case exC => k_is); (case tyC => k_is); (case kC => k_is); (case iC => k_is); (case tI => k_is); (case lk => k_is); (case cd => k_is); (case lc => k_is); (case hv => exact rfl); (case hf => decide +kernel); (case lcc => k_is); (case self => k_is); (case sup => k_is); (case opq => k_is); (case up => kernel_rfl); (case su => k_is); (case noW => k_is))
  (case ii => kernel_rfl)
  (case ri => kernel_rfl)
  (case rr => kernel_rfl)
  (case xI => exact L2.xfB_ok (by kernel_rfl))
  (case xR => exact L2.xfB_ok (by kernel_rfl))
  (case xc => refine' ⟨?a1, ?a2, ?a3, ?a4, ?a5, ?a6, ?a7, ?a8⟩; (case a1 => k_is); (case a2 => k_is); (case a3 => k_is); (case a4 => k_is); (case a5 => k_is); (case a6 => k_is); (case a7 => k_is); (case a8 => k_is))
  (case x4 => exact ⟨by kernel_rfl, by kernel_rfl, by kernel_rfl, by kernel_rfl⟩)
  (case d_shared_divisor => refine' K24.funI_mk ?a ?l ?c ?k; (case a => k_is); (case l => k_is); (case c => k_is); (case k => k_is))
  (case d_fraction_of => refine' K24.funI_mk ?a ?l ?c ?k; (case a => k_is); (case l => k_is); (case c => k_is); (case k => k_is))
  (case d_is_integer => refine' K24.funI_mk ?a ?l ?c ?k; (case a => k_is); (case l => k_is); (case c => k_is); (case k => k_is))
  (case d_is_number => refine' K24.funI_mk ?a ?l ?c ?k; (case a => k_is); (case l => k_is); (case c => k_is); (case k => k_is))
  (case d_need_number => refine' K24.funI_mk ?a ?l ?c ?k; (case a => k_is); (case l => k_is); (case c => k_is); (case k => k_is))
  (case d_is_less => refine' K24.funI_mk ?a ?l ?c ?k; (case a => k_is); (case l => k_is); (case c => k_is); (case k => k_is))
  (case d_added => refine' K24.funI_mk ?a ?l ?c ?k; (case a => k_is); (case l => k_is); (case c => k_is); (case k => k_is))
  (case d_timed => refine' K24.funI_mk ?a ?l ?c ?k; (case a => k_is); (case l => k_is); (case c => k_is); (case k => k_is))
  (case d_whole => refine' K24.funI_mk ?a ?l ?c ?k; (case a => k_is); (case l => k_is); (case c => k_is); (case k => k_is))
  (case d_is_fraction => refine' K24.funI_mk ?a ?l ?c ?k; (case a => k_is); (case l => k_is); (case c => k_is); (case k => k_is))
  (case d_between_ends => refine' K24.funI_mk ?a ?l ?c ?k; (case a => k_is); (case l => k_is); (case c => k_is); (case k => k_is))
  (case d_are_crossed => refine' K24.funI_mk ?a ?l ?c ?k; (case a => k_is); (case l => k_is); (case c => k_is); (case k => k_is))
  (case l_factor => refine' K24.funI_mk ?a ?l ?c ?k; (case a => k_is); (case l => k_is); (case c => k_is); (case k => k_is))
  (case l_low => refine' K24.funI_mk ?a ?l ?c ?k; (case a => k_is); (case l => k_is); (case c => k_is); (case k => k_is))
  (case l_draw => refine' K24.funI_mk ?a ?l ?c ?k; (case a => k_is); (case l => k_is); (case c => k_is); (case k => k_is))
  (case l_pick => refine' K24.funI_mk ?a ?l ?c ?k; (case a => k_is); (case l => k_is); (case c => k_is); (case k => k_is))
  (case l_heap => refine' K24.funI_mk ?a ?l ?c ?k; (case a => k_is); (case l => k_is); (case c => k_is); (case k => k_is))
  (case l_row => refine' K24.funI_mk ?a ?l ?c ?k; (case a => k_is); (case l => k_is); (case c => k_is); (case k => k_is))
  (case l_determinant => refine' K24.funI_mk ?a ?l ?c ?k; (case a => k_is); (case l => k_is); (case c => k_is); (case k => k_is))
  (case l_entry => refine' K24.funI_mk ?a ?l ?c ?k; (case a => k_is); (case l => k_is); (case c => k_is); (case k => k_is))
  (case l_same => refine' K24.funI_mk ?a ?l ?c ?k; (case a => k_is); (case l => k_is); (case c => k_is); (case k => k_is))
  (case l_entries_right => refine' K24.funI_mk ?a ?l ?c ?k; (case a => k_is); (case l => k_is); (case c => k_is); (case k => k_is))
  (case l_wander => refine' K24.funI_mk ?a ?l ?c ?k; (case a => k_is); (case l => k_is); (case c => k_is); (case k => k_is))
  (case l_led => refine' K24.funI_mk ?a ?l ?c ?k; (case a => k_is); (case l => k_is); (case c => k_is); (case k => k_is))
  (case l_heard => refine' K24.funI_mk ?a ?l ?c ?k; (case a => k_is); (case l => k_is); (case c => k_is); (case k => k_is))
  (case l_world_right => refine' K24.funI_mk ?a ?l ?c ?k; (case a => k_is); (case l => k_is); (case c => k_is); (case k => k_is))
  (case m_add_row => refine' K24.methI_mk ?a ?i ?l ?c ?k; (case a => k_is); (case i => k_is); (case l => k_is); (case c => k_is); (case k => k_is))
  (case m_ends => refine' K24.methI_mk ?a ?i ?l ?c ?k; (case a => k_is); (case i => k_is); (case l => k_is); (case c => k_is); (case k => k_is))
  (case m_value => refine' K24.methI_mk ?a ?i ?l ?c ?k; (case a => k_is); (case i => k_is); (case l => k_is); (case c => k_is); (case k => k_is))
  (case m_point => refine' K24.methI_mk ?a ?i ?l ?c ?k; (case a => k_is); (case i => k_is); (case l => k_is); (case c => k_is); (case k => k_is))
  (case m_check_pair => refine' K24.methI_mk ?a ?i ?l ?c ?k; (case a => k_is); (case i => k_is); (case l => k_is); (case c => k_is); (case k => k_is))
  (case m_entry => refine' K24.methI_mk ?a ?i ?l ?c ?k; (case a => k_is); (case i => k_is); (case l => k_is); (case c => k_is); (case k => k_is))
  (case m_row_at => refine' K24.methI_mk ?a ?i ?l ?c ?k; (case a => k_is); (case i => k_is); (case l => k_is); (case c => k_is); (case k => k_is))
  (case m_exchanged_row => refine' K24.methI_mk ?a ?i ?l ?c ?k; (case a => k_is); (case i => k_is); (case l => k_is); (case c => k_is); (case k => k_is))
  (case m_exchange => refine' K24.methI_mk ?a ?i ?l ?c ?k; (case a => k_is); (case i => k_is); (case l => k_is); (case c => k_is); (case k => k_is))
  (case m_move => refine' K24.methI_mk ?a ?i ?l ?c ?k; (case a => k_is); (case i => k_is); (case l => k_is); (case c => k_is); (case k => k_is))
  (case m_give_ends => refine' K24.methI_mk ?a ?i ?l ?c ?k; (case a => k_is); (case i => k_is); (case l => k_is); (case c => k_is); (case k => k_is))
  (case m_put_end => refine' K24.methI_mk ?a ?i ?l ?c ?k; (case a => k_is); (case i => k_is); (case l => k_is); (case c => k_is); (case k => k_is))
  (case m_init => refine' K24.methI_mk ?a ?i ?l ?c ?k; (case a => k_is); (case i => k_is); (case l => k_is); (case c => k_is); (case k => k_is))
  (case p_places => refine' K24.propI_mk ?a ?g ?t ?r ?l ?c ?k; (case a => k_is); (case g => k_is); (case t => k_is); (case r => k_is); (case l => k_is); (case c => k_is); (case k => k_is))
  (case p_basis => refine' K24.propI_mk ?a ?g ?t ?r ?l ?c ?k; (case a => k_is); (case g => k_is); (case t => k_is); (case r => k_is); (case l => k_is); (case c => k_is); (case k => k_is))
  (case p_columns => refine' K24.propI_mk ?a ?g ?t ?r ?l ?c ?k; (case a => k_is); (case g => k_is); (case t => k_is); (case r => k_is); (case l => k_is); (case c => k_is); (case k => k_is))
  (case lB => refine' K24.lamI_mk ?a ?l ?cd ?k ?lc ?lt ?hd ?no; (case a => k_is); (case l => k_is); (case cd => k_is); (case k => k_is); (case lc => k_is); (case lt => exact rfl); (case hd => kernel_rfl); (case no => kernel_rfl))
  (case lR => refine' K24.lamI_mk ?a ?l ?cd ?k ?lc ?lt ?hd ?no; (case a => k_is); (case l => k_is); (case cd => k_is); (case k => k_is); (case lc => k_is); (case lt => exact rfl); (case hd => kernel_rfl); (case no => kernel_rfl))
  (case lL => refine' K24.lamI_mk ?a ?l ?cd ?k ?lc ?lt ?hd ?no; (case a => k_is); (case l => k_is); (case cd => k_is); (case k => k_is); (case lc => k_is); (case lt => exact rfl); (case hd => kernel_rfl); (case no => kernel_rfl))
  (case ne => decide)
  (case t1 => decide)
  (case t2 => decide)
  (case t3 => decide)
