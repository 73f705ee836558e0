import PyProof.Rows.All
import Wide.All
import OpenK.AllK
import Wide.FinOn
import KE.KStateDown
import HandS.ForMost
import HandS.Defaults
import HandS.Head0
import HandS.Head1
import HandS.Head2
import HandS.HeadEnd
import HandS.HeadHook1
import HandS.HeadHook2
import HandS.HeadHook3
import HandS.HeadHook4
import HandS.HeadWalk
import HandS.Zip
import HandS.TupAny
import HandS.TupMul
import KE.DatumOrd
import HandS.IsInst
import KE.GoesEnum
import KE.KRevSl
import KE.DatumIndex
import KE.KIndexWalk
import HandS.DictComp
import HandS.SortInts
import HandS.Nested
import KE.KDictKeyed
import KE.KeyNested
import HandS.Conv
import KE.SortUse
import HandS.TupSets
import KE.KDictZip
import KE.GoesMore
import HandS.DictTup
import PySem.Challenge.RW_unitgrids_k58_whole_fewest_live_cells_st
set_option Elab.async false
set_option linter.all false
set_option maxRecDepth 100000
set_option maxHeartbeats 4000000
section
set_option maxHeartbeats 0
namespace UG
open PySem PySem.Spec PyProof.Rows L2
def top (i : Nat) : Stmt := PySem.Challenge.pw_unitgrids_k58_whole_fewest_live_cells_st.main.body.getD i (.Pass ⟨0, 0, 0, 0⟩)
abbrev s_is_integer : Stmt := top 6
abbrev s_is_within : Stmt := top 7
abbrev s_check_number : Stmt := top 8
abbrev s_divisor : Stmt := top 9
abbrev s_lowest : Stmt := top 10
abbrev s_is_fraction : Stmt := top 11
abbrev s_plus : Stmt := top 12
abbrev s_minus : Stmt := top 13
abbrev s_is_unit_of : Stmt := top 14
abbrev s_unitless : Stmt := top 15
abbrev s_unit_plus : Stmt := top 16
abbrev s_unit_minus : Stmt := top 17
abbrev s_is_part : Stmt := top 23
abbrev s_is_cell : Stmt := top 24
abbrev s_check_rows : Stmt := top 25
abbrev s_sizes_of : Stmt := top 27
abbrev s_with_cell : Stmt := top 28
abbrev s_reached_by : Stmt := top 30
abbrev s_turned_rows : Stmt := top 32
abbrev s_shortest_walks : Stmt := top 33
abbrev s_weight_of : Stmt := top 34
abbrev s_two_walks : Stmt := top 35
abbrev s_ring_ties : Stmt := top 36
abbrev s_ring_heights : Stmt := top 37
abbrev s_rings_in : Stmt := top 38
abbrev s_least_first : Stmt := top 39
abbrev s_ring_weight : Stmt := top 40
abbrev s_heavy_ring : Stmt := top 41
abbrev s_check_square_grid : Stmt := top 43
abbrev s_take_column : Stmt := top 44
abbrev s_placed : Stmt := top 45
abbrev s_raw_placing : Stmt := top 46
abbrev s_placing_ties : Stmt := top 47
abbrev s_placing_unit : Stmt := top 49
abbrev s_raw_determinant_verdict : Stmt := top 50
abbrev s_determinant_verdict : Stmt := top 51
abbrev s_two_placings : Stmt := top 52
abbrev s_least_lot : Stmt := top 55
abbrev s_struck : Stmt := top 56
abbrev s_fewest_struck : Stmt := top 57
abbrev s_L_hand : Stmt := top 59
abbrev s_L_draw : Stmt := top 60
abbrev s_L_lowest : Stmt := top 61
abbrev s_L_plus : Stmt := top 62
abbrev s_L_unit_sum : Stmt := top 64
abbrev s_L_unitless : Stmt := top 65
abbrev s_L_total : Stmt := top 66
abbrev s_L_unit : Stmt := top 67
abbrev s_L_rows : Stmt := top 68
abbrev s_L_drawn : Stmt := top 69
abbrev s_L_made : Stmt := top 70
abbrev s_L_placings : Stmt := top 71
abbrev s_L_placed : Stmt := top 72
abbrev s_L_lots : Stmt := top 75
abbrev s_L_due : Stmt := top 76
abbrev s_L_ring_right : Stmt := top 77
abbrev s_law : Stmt := top 78
abbrev s_Grid_init : Stmt := inClass (top 26) 0
/-! ### each def as the head tells it -/
def d_is_integer : He.DefD := ⟨("is_integer", none), "is_integer", "is_integer", defArgs s_is_integer, defBody s_is_integer, defScope s_is_integer, [], []⟩
def d_is_within : He.DefD := ⟨("is_within", none), "is_within", "is_within", defArgs s_is_within, defBody s_is_within, defScope s_is_within, [], []⟩
def d_check_number : He.DefD := ⟨("check_number", none), "check_number", "check_number", defArgs s_check_number, defBody s_check_number, defScope s_check_number, [], []⟩
def d_divisor : He.DefD := ⟨("divisor", none), "divisor", "divisor", defArgs s_divisor, defBody s_divisor, defScope s_divisor, [], []⟩
def d_lowest : He.DefD := ⟨("lowest", none), "lowest", "lowest", defArgs s_lowest, defBody s_lowest, defScope s_lowest, [], []⟩
def d_is_fraction : He.DefD := ⟨("is_fraction", none), "is_fraction", "is_fraction", defArgs s_is_fraction, defBody s_is_fraction, defScope s_is_fraction, [], []⟩
def d_plus : He.DefD := ⟨("plus", none), "plus", "plus", defArgs s_plus, defBody s_plus, defScope s_plus, [], []⟩
def d_minus : He.DefD := ⟨("minus", none), "minus", "minus", defArgs s_minus, defBody s_minus, defScope s_minus, [], []⟩
def d_is_unit_of : He.DefD := ⟨("is_unit_of", none), "is_unit_of", "is_unit_of", defArgs s_is_unit_of, defBody s_is_unit_of, defScope s_is_unit_of, [], []⟩
def d_unitless : He.DefD := ⟨("unitless", none), "unitless", "unitless", defArgs s_unitless, defBody s_unitless, defScope s_unitless, [], []⟩
def d_unit_plus : He.DefD := ⟨("unit_plus", none), "unit_plus", "unit_plus", defArgs s_unit_plus, defBody s_unit_plus, defScope s_unit_plus, [], []⟩
def d_unit_minus : He.DefD := ⟨("unit_minus", none), "unit_minus", "unit_minus", defArgs s_unit_minus, defBody s_unit_minus, defScope s_unit_minus, [], []⟩
def d_is_part : He.DefD := ⟨("is_part", none), "is_part", "is_part", defArgs s_is_part, defBody s_is_part, defScope s_is_part, [], []⟩
def d_is_cell : He.DefD := ⟨("is_cell", none), "is_cell", "is_cell", defArgs s_is_cell, defBody s_is_cell, defScope s_is_cell, [], []⟩
def d_check_rows : He.DefD := ⟨("check_rows", none), "check_rows", "check_rows", defArgs s_check_rows, defBody s_check_rows, defScope s_check_rows, [], []⟩
def d_sizes_of : He.DefD := ⟨("sizes_of", none), "sizes_of", "sizes_of", defArgs s_sizes_of, defBody s_sizes_of, defScope s_sizes_of, [], []⟩
def d_with_cell : He.DefD := ⟨("with_cell", none), "with_cell", "with_cell", defArgs s_with_cell, defBody s_with_cell, defScope s_with_cell, [], []⟩
def d_reached_by : He.DefD := ⟨("reached_by", none), "reached_by", "reached_by", defArgs s_reached_by, defBody s_reached_by, defScope s_reached_by, [], []⟩
def d_turned_rows : He.DefD := ⟨("turned_rows", none), "turned_rows", "turned_rows", defArgs s_turned_rows, defBody s_turned_rows, defScope s_turned_rows, [], []⟩
def d_shortest_walks : He.DefD := ⟨("shortest_walks", none), "shortest_walks", "shortest_walks", defArgs s_shortest_walks, defBody s_shortest_walks, defScope s_shortest_walks, [], []⟩
def d_weight_of : He.DefD := ⟨("weight_of", none), "weight_of", "weight_of", defArgs s_weight_of, defBody s_weight_of, defScope s_weight_of, [], []⟩
def d_two_walks : He.DefD := ⟨("two_walks", none), "two_walks", "two_walks", defArgs s_two_walks, defBody s_two_walks, defScope s_two_walks, [], []⟩
def d_ring_ties : He.DefD := ⟨("ring_ties", none), "ring_ties", "ring_ties", defArgs s_ring_ties, defBody s_ring_ties, defScope s_ring_ties, [], []⟩
def d_ring_heights : He.DefD := ⟨("ring_heights", none), "ring_heights", "ring_heights", defArgs s_ring_heights, defBody s_ring_heights, defScope s_ring_heights, [], []⟩
def d_rings_in : He.DefD := ⟨("rings_in", none), "rings_in", "rings_in", defArgs s_rings_in, defBody s_rings_in, defScope s_rings_in, [], []⟩
def d_least_first : He.DefD := ⟨("least_first", none), "least_first", "least_first", defArgs s_least_first, defBody s_least_first, defScope s_least_first, [], []⟩
def d_ring_weight : He.DefD := ⟨("ring_weight", none), "ring_weight", "ring_weight", defArgs s_ring_weight, defBody s_ring_weight, defScope s_ring_weight, [], []⟩
def d_heavy_ring : He.DefD := ⟨("heavy_ring", none), "heavy_ring", "heavy_ring", defArgs s_heavy_ring, defBody s_heavy_ring, defScope s_heavy_ring, [], []⟩
def d_check_square_grid : He.DefD := ⟨("check_square_grid", none), "check_square_grid", "check_square_grid", defArgs s_check_square_grid, defBody s_check_square_grid, defScope s_check_square_grid, [], []⟩
def d_take_column : He.DefD := ⟨("take_column", none), "take_column", "take_column", defArgs s_take_column, defBody s_take_column, defScope s_take_column, [], []⟩
def d_placed : He.DefD := ⟨("placed", none), "placed", "placed", defArgs s_placed, defBody s_placed, defScope s_placed, [], []⟩
def d_raw_placing : He.DefD := ⟨("raw_placing", none), "raw_placing", "raw_placing", defArgs s_raw_placing, defBody s_raw_placing, defScope s_raw_placing, [], []⟩
def d_placing_ties : He.DefD := ⟨("placing_ties", none), "placing_ties", "placing_ties", defArgs s_placing_ties, defBody s_placing_ties, defScope s_placing_ties, [], []⟩
def d_placing_unit : He.DefD := ⟨("placing_unit", none), "placing_unit", "placing_unit", defArgs s_placing_unit, defBody s_placing_unit, defScope s_placing_unit, [], []⟩
def d_raw_determinant_verdict : He.DefD := ⟨("raw_determinant_verdict", none), "raw_determinant_verdict", "raw_determinant_verdict", defArgs s_raw_determinant_verdict, defBody s_raw_determinant_verdict, defScope s_raw_determinant_verdict, [], []⟩
def d_determinant_verdict : He.DefD := ⟨("determinant_verdict", none), "determinant_verdict", "determinant_verdict", defArgs s_determinant_verdict, defBody s_determinant_verdict, defScope s_determinant_verdict, [], []⟩
def d_two_placings : He.DefD := ⟨("two_placings", none), "two_placings", "two_placings", defArgs s_two_placings, defBody s_two_placings, defScope s_two_placings, [], []⟩
def d_least_lot : He.DefD := ⟨("least_lot", none), "least_lot", "least_lot", defArgs s_least_lot, defBody s_least_lot, defScope s_least_lot, [], []⟩
def d_struck : He.DefD := ⟨("struck", none), "struck", "struck", defArgs s_struck, defBody s_struck, defScope s_struck, [], []⟩
def d_fewest_struck : He.DefD := ⟨("fewest_struck", none), "fewest_struck", "fewest_struck", defArgs s_fewest_struck, defBody s_fewest_struck, defScope s_fewest_struck, [], []⟩
def d_L_hand : He.DefD := ⟨("_law_hand", none), "_law_hand", "_law_hand", defArgs s_L_hand, defBody s_L_hand, defScope s_L_hand, [], []⟩
def d_L_draw : He.DefD := ⟨("_law_draw", none), "_law_draw", "_law_draw", defArgs s_L_draw, defBody s_L_draw, defScope s_L_draw, [], []⟩
def d_L_lowest : He.DefD := ⟨("_law_lowest", none), "_law_lowest", "_law_lowest", defArgs s_L_lowest, defBody s_L_lowest, defScope s_L_lowest, [], []⟩
def d_L_plus : He.DefD := ⟨("_law_plus", none), "_law_plus", "_law_plus", defArgs s_L_plus, defBody s_L_plus, defScope s_L_plus, [], []⟩
def d_L_unit_sum : He.DefD := ⟨("_law_unit_sum", none), "_law_unit_sum", "_law_unit_sum", defArgs s_L_unit_sum, defBody s_L_unit_sum, defScope s_L_unit_sum, [], []⟩
def d_L_unitless : He.DefD := ⟨("_law_unitless", none), "_law_unitless", "_law_unitless", defArgs s_L_unitless, defBody s_L_unitless, defScope s_L_unitless, [], []⟩
def d_L_total : He.DefD := ⟨("_law_total", none), "_law_total", "_law_total", defArgs s_L_total, defBody s_L_total, defScope s_L_total, [], []⟩
def d_L_unit : He.DefD := ⟨("_law_unit", none), "_law_unit", "_law_unit", defArgs s_L_unit, defBody s_L_unit, defScope s_L_unit, [], []⟩
def d_L_rows : He.DefD := ⟨("_law_rows", none), "_law_rows", "_law_rows", defArgs s_L_rows, defBody s_L_rows, defScope s_L_rows, [], []⟩
def d_L_drawn : He.DefD := ⟨("_law_drawn", none), "_law_drawn", "_law_drawn", defArgs s_L_drawn, defBody s_L_drawn, defScope s_L_drawn, [], []⟩
def d_L_made : He.DefD := ⟨("_law_made", none), "_law_made", "_law_made", defArgs s_L_made, defBody s_L_made, defScope s_L_made, [], []⟩
def d_L_placings : He.DefD := ⟨("_law_placings", none), "_law_placings", "_law_placings", defArgs s_L_placings, defBody s_L_placings, defScope s_L_placings, [], []⟩
def d_L_placed : He.DefD := ⟨("_law_placed", none), "_law_placed", "_law_placed", defArgs s_L_placed, defBody s_L_placed, defScope s_L_placed, [], []⟩
def d_L_lots : He.DefD := ⟨("_law_lots", none), "_law_lots", "_law_lots", defArgs s_L_lots, defBody s_L_lots, defScope s_L_lots, [], []⟩
def d_L_due : He.DefD := ⟨("_law_due", none), "_law_due", "_law_due", defArgs s_L_due, defBody s_L_due, defScope s_L_due, [], []⟩
def d_L_ring_right : He.DefD := ⟨("_law_ring_right", none), "_law_ring_right", "_law_ring_right", defArgs s_L_ring_right, defBody s_L_ring_right, defScope s_L_ring_right, [], []⟩
def d_law : He.DefD := ⟨("law", none), "law", "law", defArgs s_law, defBody s_law, defScope s_law, [], []⟩
def d_Grid_init : He.DefD := ⟨("Grid", some "__init__"), "__init__", "Grid.__init__", defArgs s_Grid_init, defBody s_Grid_init, defScope s_Grid_init, [], []⟩
def fn : List He.DefD := [d_is_integer, d_is_within, d_check_number, d_divisor, d_lowest, d_is_fraction, d_plus, d_minus, d_is_unit_of, d_unitless, d_unit_plus, d_unit_minus, d_is_part, d_is_cell, d_check_rows, d_sizes_of, d_with_cell, d_reached_by, d_turned_rows, d_shortest_walks, d_weight_of, d_two_walks, d_ring_ties, d_ring_heights, d_rings_in, d_least_first, d_ring_weight, d_heavy_ring, d_check_square_grid, d_take_column, d_placed, d_raw_placing, d_placing_ties, d_placing_unit, d_raw_determinant_verdict, d_determinant_verdict, d_two_placings, d_least_lot, d_struck, d_fewest_struck, d_L_hand, d_L_draw, d_L_lowest, d_L_plus, d_L_unit_sum, d_L_unitless, d_L_total, d_L_unit, d_L_rows, d_L_drawn, d_L_made, d_L_placings, d_L_placed, d_L_lots, d_L_due, d_L_ring_right, d_law, d_Grid_init]
def fa : List He.Fa := [.glo "is_integer", .glo "is_within", .glo "check_number", .glo "divisor", .glo "lowest", .glo "is_fraction", .glo "plus", .glo "minus", .glo "is_unit_of", .glo "unitless", .glo "unit_plus", .glo "unit_minus", .glo "is_part", .glo "is_cell", .glo "check_rows", .glo "sizes_of", .glo "with_cell", .glo "reached_by", .glo "turned_rows", .glo "shortest_walks", .glo "weight_of", .glo "two_walks", .glo "ring_ties", .glo "ring_heights", .glo "rings_in", .glo "least_first", .glo "ring_weight", .glo "heavy_ring", .glo "check_square_grid", .glo "take_column", .glo "placed", .glo "raw_placing", .glo "placing_ties", .glo "placing_unit", .glo "raw_determinant_verdict", .glo "determinant_verdict", .glo "two_placings", .glo "least_lot", .glo "struck", .glo "fewest_struck", .glo "_law_hand", .glo "_law_draw", .glo "_law_lowest", .glo "_law_plus", .glo "_law_unit_sum", .glo "_law_unitless", .glo "_law_total", .glo "_law_unit", .glo "_law_rows", .glo "_law_drawn", .glo "_law_made", .glo "_law_placings", .glo "_law_placed", .glo "_law_lots", .glo "_law_due", .glo "_law_ring_right", .glo "law", .glo "Grid", .cls "Grid", .noat "Grid" "bases", .noat "Grid" "rows", .mkr "Grid", .int "MOST_BASES" 3, .int "MOST_ROWS" 10, .int "MOST_TOP" 6, .int "MOST_BOTTOM" 4, .int "MOST_CELLS" 3, .free "len", .free "range", .free "zip", .free "enumerate", .free "tuple", .free "list", .free "int", .free "abs", .free "all", .free "isinstance", .free "sorted", .free "min", .free "sum", .free "set", .free "bool"]
def loose0 : List Str := [("__name__" : Str), ("GridError" : Str), ("BadGrid" : Str), ("NoNumber" : Str), ("NotSquare" : Str), ("is_integer" : Str), ("is_within" : Str), ("check_number" : Str), ("divisor" : Str), ("lowest" : Str), ("is_fraction" : Str), ("plus" : Str)]
def loose1 : List Str := [("minus" : Str), ("is_unit_of" : Str), ("unitless" : Str), ("unit_plus" : Str), ("unit_minus" : Str), ("MOST_BASES" : Str), ("MOST_ROWS" : Str), ("MOST_TOP" : Str), ("MOST_BOTTOM" : Str), ("is_part" : Str), ("is_cell" : Str), ("check_rows" : Str)]
def loose2 : List Str := [("Grid" : Str), ("sizes_of" : Str), ("with_cell" : Str), ("reached_by" : Str), ("turned_rows" : Str), ("shortest_walks" : Str), ("weight_of" : Str), ("two_walks" : Str), ("ring_ties" : Str), ("ring_heights" : Str), ("rings_in" : Str), ("least_first" : Str)]
def loose3 : List Str := [("ring_weight" : Str), ("heavy_ring" : Str), ("check_square_grid" : Str), ("take_column" : Str), ("placed" : Str), ("raw_placing" : Str), ("placing_ties" : Str), ("placing_unit" : Str), ("raw_determinant_verdict" : Str), ("determinant_verdict" : Str), ("two_placings" : Str), ("MOST_CELLS" : Str)]
def loose4 : List Str := [("least_lot" : Str), ("struck" : Str), ("fewest_struck" : Str), ("_law_hand" : Str), ("_law_draw" : Str), ("_law_lowest" : Str), ("_law_plus" : Str), ("_law_times" : Str), ("_law_unit_sum" : Str), ("_law_unitless" : Str), ("_law_total" : Str), ("_law_unit" : Str)]
def loose5 : List Str := [("_law_rows" : Str), ("_law_drawn" : Str), ("_law_made" : Str), ("_law_placings" : Str), ("_law_placed" : Str), ("_law_units" : Str), ("_law_verdict" : Str), ("_law_lots" : Str), ("_law_due" : Str), ("_law_ring_right" : Str)]
def loose : List Str := loose0 ++ loose1 ++ loose2 ++ loose3 ++ loose4 ++ loose5
def tf : List He.Defn := [("fewest_struck", none)]
abbrev R : PySem.W.OpenRow := PySem.W.OpenLaw.row PySem.Challenge.rw_unitgrids_k58_whole_fewest_live_cells_st
abbrev qv : Program := PySem.W.view R.prog [78]
abbrev hk : PySem.W.Hook := He.hookX 5 fa fn [] tf (fun _ => true)
def ob (s : PySem.W.SharedT) : He.AlX := He.obsX 5 fa fn [] tf (fun _ => true) (HandSHeadRun.getT s)
theorem ob_eq (s : PySem.W.SharedT) : ob s = hk.obs s.abs := He.obsX_eq (HandSHeadRun.getT_eq s)
theorem run (w : World) : HandSHeadRun.RunEq R qv hk ob 4000 loose w := by
  intro os
  kernel_rfl
end UG
end
section
set_option autoImplicit false
/-! Unitgrids: the mathematics of placings, heights and rings, scalar (one exponent at a time). No program here. -/
namespace UM
/-! ### sums over the numbers below n -/
def sm : Nat → (Nat → Int) → Int
  | 0, _ => 0
  | n + 1, f => sm n f + f n
theorem sm_congr {f g : Nat → Int} : ∀ n, (∀ i, i < n → f i = g i) → sm n f = sm n g
  | 0, _ => rfl
  | n + 1, h => by
    simp only [sm]
    rw [sm_congr n fun i hi => h i (by omega), h n (by omega)]
theorem sm_add (f g : Nat → Int) : ∀ n, sm n (fun i => f i + g i) = sm n f + sm n g
  | 0 => rfl
  | n + 1 => by simp only [sm]; rw [sm_add f g n]; omega
theorem sm_sub (f g : Nat → Int) : ∀ n, sm n (fun i => f i - g i) = sm n f - sm n g
  | 0 => rfl
  | n + 1 => by simp only [sm]; rw [sm_sub f g n]; omega
theorem sm_one {f g : Nat → Int} {x : Nat} : ∀ n, x < n → (∀ i, i < n → i ≠ x → f i = g i) → sm n f = sm n g + (f x - g x)
  | 0, h, _ => absurd h (Nat.not_lt_zero _)
  | n + 1, h, hs => by
    simp only [sm]
    by_cases e : x = n
    · subst e
      rw [sm_congr x fun i hi => hs i (by omega) (by omega)]
      omega
    · rw [sm_one n (by omega) fun i hi hx => hs i (by omega) hx, hs n (by omega) (by omega)]
      omega
/-- the sum over a list -/
def ls (f : Nat → Int) : List Nat → Int
  | [] => 0
  | x :: r => f x + ls f r
theorem ls_append (f : Nat → Int) : ∀ a b, ls f (a ++ b) = ls f a + ls f b
  | [], b => by simp [ls]
  | x :: a, b => by simp only [List.cons_append, ls]; rw [ls_append f a b]; omega
theorem ls_congr {f g : Nat → Int} : ∀ r : List Nat, (∀ x ∈ r, f x = g x) → ls f r = ls g r
  | [], _ => rfl
  | x :: r, h => by
    simp only [ls]
    rw [h x List.mem_cons_self, ls_congr r fun y hy => h y (List.mem_cons_of_mem _ hy)]
theorem ls_perm {f : Nat → Int} {a b : List Nat} (p : a.Perm b) : ls f a = ls f b := by
  induction p with
  | nil => rfl
  | cons x _ ih => simp only [ls, ih]
  | swap x y l => simp only [ls]; omega
  | trans _ _ h1 h2 => exact h1.trans h2
theorem ls_map (f : Nat → Int) (g : Nat → Nat) : ∀ r : List Nat, ls f (r.map g) = ls (fun x => f (g x)) r
  | [] => rfl
  | x :: r => by simp only [List.map_cons, ls]; rw [ls_map f g r]
theorem sm_range (f : Nat → Int) : ∀ n, ls f (List.range n) = sm n f
  | 0 => rfl
  | n + 1 => by rw [List.range_succ, ls_append, sm_range f n]; simp [ls, sm]
theorem sm_list {f g : Nat → Int} {n : Nat} : ∀ (r : List Nat), r.Nodup → (∀ x ∈ r, x < n) → (∀ i, i < n → i ∉ r → f i = g i) → sm n f = sm n g + ls (fun x => f x - g x) r
  | [], _, _, h => by simp only [ls]; rw [sm_congr n fun i hi => h i hi (by simp)]; omega
  | x :: r, hn, hl, h => by
    have hn' := List.nodup_cons.mp hn
    have ih := sm_list (f := fun i => if i = x then g x else f i) (g := g) (n := n) r hn'.2 (fun y hy => hl y (List.mem_cons_of_mem _ hy)) (fun i hi hr => by
      by_cases e : i = x
      · simp [e]
      · simp only [e, if_false]; exact h i hi (by simp [e, hr]))
    have h1 := sm_one (f := f) (g := fun i => if i = x then g x else f i) (x := x) n (hl x List.mem_cons_self) (fun i _ hx => by simp [hx])
    rw [h1, ih]
    simp only [ls, if_true]
    rw [ls_congr (f := fun y => (if y = x then g x else f y) - g y) (g := fun y => f y - g y) r fun y hy => by
      have : y ≠ x := fun e => hn'.1 (e ▸ hy)
      simp [this]]
    omega
/-! ### pigeons -/
theorem nodup_len : ∀ (l D : List Nat), l.Nodup → (∀ x ∈ l, x ∈ D) → l.length ≤ D.length
  | [], _, _, _ => Nat.zero_le _
  | x :: l, D, hn, hs => by
    have hn' := List.nodup_cons.mp hn
    have hx : x ∈ D := hs x List.mem_cons_self
    have := nodup_len l (D.erase x) hn'.2 (fun y hy => by
      have hne : y ≠ x := fun e => hn'.1 (e ▸ hy)
      exact (List.mem_erase_of_ne hne).mpr (hs y (List.mem_cons_of_mem _ hy)))
    rw [List.length_erase_of_mem hx] at this
    have : 0 < D.length := List.length_pos_of_mem hx
    simp only [List.length_cons]
    omega
/-- a nodup list within another one that is no longer holds all of it -/
theorem nodup_all {l D : List Nat} (hn : l.Nodup) (hs : ∀ x ∈ l, x ∈ D) (hd : D.length ≤ l.length) : ∀ x ∈ D, x ∈ l := fun x hx => by
  refine Classical.byContradiction fun hc => ?_
  have := nodup_len (x :: l) D (List.nodup_cons.mpr ⟨hc, hn⟩) (fun y hy => by
    rcases List.mem_cons.mp hy with rfl | h
    · exact hx
    · exact hs y h)
  simp only [List.length_cons] at this
  omega
theorem nodup_map {f : Nat → Nat} : ∀ {l : List Nat}, l.Nodup → (∀ x ∈ l, ∀ y ∈ l, f x = f y → x = y) → (l.map f).Nodup
  | [], _, _ => List.nodup_nil
  | x :: l, hn, hi => by
    have hn' := List.nodup_cons.mp hn
    rw [List.map_cons, List.nodup_cons]
    refine ⟨fun hm => ?_, nodup_map hn'.2 fun a ha b hb => hi a (List.mem_cons_of_mem _ ha) b (List.mem_cons_of_mem _ hb)⟩
    obtain ⟨y, hy, e⟩ := List.mem_map.mp hm
    exact hn'.1 (hi x List.mem_cons_self y (List.mem_cons_of_mem _ hy) e.symm ▸ hy)
theorem perm_of_nodup {a b : List Nat} (ha : a.Nodup) (hb : b.Nodup) (h : ∀ x, x ∈ a ↔ x ∈ b) : a.Perm b := (List.perm_ext_iff_of_nodup ha hb).mpr h
/-- f sends the numbers below n to such, unlike ones to unlike ones -/
structure Inj (n : Nat) (f : Nat → Nat) : Prop where
  lt : ∀ i, i < n → f i < n
  inj : ∀ i j, i < n → j < n → f i = f j → i = j
theorem Inj.perm {n : Nat} {f : Nat → Nat} (h : Inj n f) : ((List.range n).map f).Perm (List.range n) := by
  have hn : ((List.range n).map f).Nodup := nodup_map List.nodup_range fun x hx y hy e => h.inj x y (List.mem_range.mp hx) (List.mem_range.mp hy) e
  have hs : ∀ x ∈ (List.range n).map f, x ∈ List.range n := fun x hx => by
    obtain ⟨y, hy, rfl⟩ := List.mem_map.mp hx
    exact List.mem_range.mpr (h.lt y (List.mem_range.mp hy))
  exact perm_of_nodup hn List.nodup_range fun x => ⟨hs x, nodup_all hn hs (by simp) x⟩
theorem Inj.onto {n : Nat} {f : Nat → Nat} (h : Inj n f) {j : Nat} (hj : j < n) : ∃ i, i < n ∧ f i = j := by
  have := h.perm.mem_iff.mpr (List.mem_range.mpr hj)
  obtain ⟨i, hi, e⟩ := List.mem_map.mp this
  exact ⟨i, List.mem_range.mp hi, e⟩
theorem Inj.sum {n : Nat} {f : Nat → Nat} (h : Inj n f) (g : Nat → Int) : sm n (fun i => g (f i)) = sm n g := by
  rw [← sm_range, ← sm_range, ← ls_map, ls_perm h.perm]
/-! ### placings -/
/-- p places n rows, cells at E -/
structure IsP (n : Nat) (E : Nat → Nat → Prop) (p : Nat → Nat) : Prop extends Inj n p where
  at_ : ∀ i, i < n → E i (p i)
/-- what a placing weighs -/
def W (n : Nat) (w : Nat → Nat → Int) (p : Nat → Nat) : Int := sm n fun i => w i (p i)
/-- a tie from one row to another one in whose column it has a cell -/
def Tie (n : Nat) (E : Nat → Nat → Prop) (p : Nat → Nat) (a b : Nat) : Prop := a < n ∧ b < n ∧ a ≠ b ∧ E a (p b)
def tw (w : Nat → Nat → Int) (p : Nat → Nat) (a b : Nat) : Int := w a (p b) - w b (p b)
/-- heights on all ties that stand on a ring (R: leads to, at least): all placings weigh alike -/
theorem alike {n : Nat} {E : Nat → Nat → Prop} {w : Nat → Nat → Int} {p : Nat → Nat} {R : Nat → Nat → Prop} {h : Nat → Int} (hp : IsP n E p)
    (he : ∀ a b, Tie n E p a b → R a b) (ht : ∀ a b c, a < n → b < n → c < n → R a b → R b c → R a c)
    (hh : ∀ a b, Tie n E p a b → R b a → h b = h a + tw w p a b) {q : Nat → Nat} (hq : IsP n E q) : W n w q = W n w p := by
  -- the row in whose column a row stands
  have ex : ∀ i, ∃ j, i < n → j < n ∧ p j = q i := fun i => by
    by_cases hi : i < n
    · obtain ⟨j, hj, e⟩ := hp.onto (hq.lt i hi)
      exact ⟨j, fun _ => ⟨hj, e⟩⟩
    · exact ⟨0, fun z => absurd z hi⟩
  let f : Nat → Nat := fun i => (ex i).choose
  have hf : ∀ i, i < n → f i < n ∧ p (f i) = q i := fun i hi => (ex i).choose_spec hi
  have fi : Inj n f := ⟨fun i hi => (hf i hi).1, fun i j hi hj e => hq.inj i j hi hj (by rw [← (hf i hi).2, ← (hf j hj).2, e])⟩
  have tie : ∀ i, i < n → i ≠ f i → Tie n E p i (f i) := fun i hi ne => ⟨hi, (hf i hi).1, ne, by rw [(hf i hi).2]; exact hq.at_ i hi⟩
  -- back to where one came from
  have back : ∀ i, i < n → i ≠ f i → R (f i) i := fun i hi ne => by
    let P : Nat → Prop := fun x => x = f i ∨ R (f i) x
    have cl : ∀ x, x < n → P x → P (f x) := fun x hx hP => by
      by_cases e : x = f x
      · rw [← e]; exact hP
      · rcases hP with rfl | hP
        · exact .inr (he _ _ (tie _ hx e))
        · exact .inr (ht _ x _ (hf i hi).1 hx (hf x hx).1 hP (he _ _ (tie x hx e)))
    have dec : ∀ x, Decidable (P x) := fun x => Classical.propDecidable _
    let S := (List.range n).filter fun x => @decide (P x) (dec x)
    have mS : ∀ x, x ∈ S ↔ x < n ∧ P x := fun x => by
      simp only [S, List.mem_filter, List.mem_range]
      exact and_congr_right fun _ => @decide_eq_true_iff (P x) (dec x)
    have nS : S.Nodup := List.Pairwise.filter _ List.nodup_range
    have nM : (S.map f).Nodup := nodup_map nS fun x hx y hy e => fi.inj x y ((mS x).mp hx).1 ((mS y).mp hy).1 e
    have sub : ∀ x ∈ S.map f, x ∈ S := fun x hx => by
      obtain ⟨y, hy, rfl⟩ := List.mem_map.mp hx
      have := (mS y).mp hy
      exact (mS _).mpr ⟨(hf y this.1).1, cl y this.1 this.2⟩
    have hin : f i ∈ S.map f := nodup_all nM sub (by simp) (f i) ((mS _).mpr ⟨(hf i hi).1, .inl rfl⟩)
    obtain ⟨y, hy, e⟩ := List.mem_map.mp hin
    have e' := fi.inj y i ((mS y).mp hy).1 hi e
    subst e'
    rcases ((mS y).mp hy).2 with z | z
    · exact absurd z ne
    · exact z
  have step : ∀ i, i < n → h (f i) = h i + (w i (q i) - w (f i) (p (f i))) := fun i hi => by
    by_cases e : i = f i
    · have e2 := (hf i hi).2
      rw [← e] at e2 ⊢
      rw [e2]; omega
    · have := hh i (f i) (tie i hi e) (back i hi e)
      unfold tw at this
      rw [(hf i hi).2] at this
      rw [(hf i hi).2]
      exact this
  have s1 := fi.sum h
  have s2 := fi.sum fun i => w i (p i)
  have s3 : sm n (fun i => h (f i)) = sm n h + (sm n (fun i => w i (q i)) - sm n fun i => w (f i) (p (f i))) := by
    rw [sm_congr n step, sm_add, sm_sub]
  unfold W
  omega
/-! ### walks -/
def Ch (E : Nat → Nat → Prop) : List Nat → Prop
  | [] => True
  | [_] => True
  | a :: b :: r => E a b ∧ Ch E (b :: r)
def ws (t : Nat → Nat → Int) : List Nat → Int
  | [] => 0
  | [_] => 0
  | a :: b :: r => t a b + ws t (b :: r)
theorem ch_app {E : Nat → Nat → Prop} {a : Nat} : ∀ {l r : List Nat}, Ch E (l ++ [a]) → Ch E (a :: r) → Ch E (l ++ a :: r)
  | [], _, _, h => h
  | [x], _, h, h2 => ⟨h.1, h2⟩
  | x :: y :: l, r, h, h2 => ⟨h.1, ch_app (l := y :: l) h.2 h2⟩
theorem ch_left {E : Nat → Nat → Prop} {a : Nat} : ∀ {l r : List Nat}, Ch E (l ++ a :: r) → Ch E (l ++ [a])
  | [], _, _ => trivial
  | [x], _, h => ⟨h.1, trivial⟩
  | x :: y :: l, r, h => ⟨h.1, ch_left (l := y :: l) h.2⟩
theorem ch_right {E : Nat → Nat → Prop} : ∀ {l r : List Nat}, Ch E (l ++ r) → Ch E r
  | [], _, h => h
  | [x], [], _ => trivial
  | [x], _ :: _, h => h.2
  | x :: y :: l, r, h => ch_right (l := y :: l) h.2
theorem ch_mono {E F : Nat → Nat → Prop} (h : ∀ a b, E a b → F a b) : ∀ {l : List Nat}, Ch E l → Ch F l
  | [], _ => trivial
  | [_], _ => trivial
  | _ :: _ :: _, c => ⟨h _ _ c.1, ch_mono h c.2⟩
theorem ws_app (t : Nat → Nat → Int) (a : Nat) : ∀ (l r : List Nat), ws t (l ++ a :: r) = ws t (l ++ [a]) + ws t (a :: r)
  | [], _ => by simp [ws]
  | [x], _ => by simp [ws]
  | x :: y :: l, r => by
    have := ws_app t a (y :: l) r
    simp only [List.cons_append, ws] at this ⊢
    omega
theorem ws_snoc (t : Nat → Nat → Int) (l : List Nat) (a b : Nat) : ws t (l ++ [a] ++ [b]) = ws t (l ++ [a]) + t a b := by
  rw [List.append_assoc]
  show ws t (l ++ a :: [b]) = _
  rw [ws_app]
  simp [ws]
theorem ch_snoc {E : Nat → Nat → Prop} {l : List Nat} {a b : Nat} (h : Ch E (l ++ [a])) (e : E a b) : Ch E (l ++ [a] ++ [b]) := by
  rw [List.append_assoc]
  exact ch_app h ⟨e, trivial⟩
/-! ### rings -/
/-- unlike places, each tied to the next one, the last one to the first one -/
structure Rg (E : Nat → Nat → Prop) (r : List Nat) : Prop where
  ne : r ≠ []
  nd : r.Nodup
  ch : Ch E (r ++ r.take 1)
def rw_ (t : Nat → Nat → Int) (r : List Nat) : Int := ws t (r ++ r.take 1)
/-- a turned ring -/
theorem Rg.turn {E : Nat → Nat → Prop} {r : List Nat} (h : Rg E r) (t : Nat → Nat → Int) (k : Nat) (hk : k < r.length) : Rg E (r.drop k ++ r.take k) ∧ rw_ t (r.drop k ++ r.take k) = rw_ t r := by
  obtain ⟨x, s, e⟩ : ∃ x s, r.drop k = x :: s := by
    cases hd : r.drop k with
    | nil => rw [List.drop_eq_nil_iff] at hd; omega
    | cons x s => exact ⟨x, s, rfl⟩
  have er : r = r.take k ++ x :: s := by rw [← e, List.take_append_drop]
  have nd : (r.drop k ++ r.take k).Nodup := by
    have := h.nd
    rw [← List.take_append_drop k r] at this
    exact (List.perm_append_comm.nodup_iff).mp this
  generalize r.take k = u at er nd ⊢
  rw [e] at nd ⊢
  subst er
  cases u with
  | nil =>
    simp only [List.nil_append, List.append_nil] at h ⊢
    exact ⟨h, trivial⟩
  | cons y v =>
    have hc : Ch E (y :: v ++ x :: (s ++ [y])) := by simpa using h.ch
    have c1 : Ch E (y :: v ++ [x]) := ch_left hc
    have c2 : Ch E (x :: s ++ [y]) := by simpa using ch_right hc
    refine ⟨⟨by simp, nd, ?_⟩, ?_⟩
    · have : Ch E (x :: s ++ y :: (v ++ [x])) := ch_app (r := v ++ [x]) c2 c1
      simpa using this
    · unfold rw_
      have e1 : (x :: s ++ y :: v) ++ (x :: s ++ y :: v).take 1 = x :: s ++ y :: (v ++ [x]) := by simp
      have e2 : (y :: v ++ x :: s) ++ (y :: v ++ x :: s).take 1 = y :: v ++ x :: (s ++ [y]) := by simp
      rw [e1, e2, ws_app t y (x :: s), ws_app t x (y :: v)]
      simp only [List.cons_append]
      omega
/-- the rings of which a walk is made: as the program reckons -/
def rstep (st : List (List Nat) × List Nat) (x : Nat) : List (List Nat) × List Nat :=
  if x ∈ st.2 then (st.1 ++ [st.2.drop (st.2.idxOf x)], st.2.take (st.2.idxOf x) ++ [x]) else (st.1, st.2 ++ [x])
def ringsIn (walk : List Nat) : List (List Nat) := (walk.foldl rstep ([], [])).1
def sumR (t : Nat → Nat → Int) : List (List Nat) → Int
  | [] => 0
  | r :: rs => rw_ t r + sumR t rs
theorem sumR_snoc (t : Nat → Nat → Int) (r : List Nat) : ∀ rs, sumR t (rs ++ [r]) = sumR t rs + rw_ t r
  | [] => by simp [sumR]
  | x :: rs => by simp only [List.cons_append, sumR]; rw [sumR_snoc t r rs]; omega
structure RI (E : Nat → Nat → Prop) (t : Nat → Nat → Int) (s last : Nat) (tot : Int) (st : List (List Nat) × List Nat) : Prop where
  rg : ∀ r ∈ st.1, Rg E r
  nd : st.2.Nodup
  ch : Ch E st.2
  hd : ∃ v, st.2 = s :: v
  la : ∃ v, st.2 = v ++ [last]
  tot : tot = ws t st.2 + sumR t st.1
theorem idx_split {x : Nat} : ∀ {l : List Nat}, x ∈ l → l.drop (l.idxOf x) = x :: l.drop (l.idxOf x + 1) ∧ l = l.take (l.idxOf x) ++ x :: l.drop (l.idxOf x + 1)
  | l, h => by
    have hl := List.idxOf_lt_length_iff.mpr h
    have : l.drop (l.idxOf x) = x :: l.drop (l.idxOf x + 1) := by
      rw [List.drop_eq_getElem_cons hl, List.getElem_idxOf]
    exact ⟨this, by rw [← this, List.take_append_drop]⟩
theorem RI.step {E : Nat → Nat → Prop} {t : Nat → Nat → Int} {s last x : Nat} {tot : Int} {st : List (List Nat) × List Nat} (h : RI E t s last tot st) (e : E last x) : RI E t s x (tot + t last x) (rstep st x) := by
  obtain ⟨fd, sk⟩ := st
  obtain ⟨rg, nd, ch, ⟨v, hv⟩, ⟨u, hu⟩, ht⟩ := h
  simp only at rg nd ch hv hu ht
  unfold rstep
  simp only
  split
  · rename_i hx
    obtain ⟨s1, s2⟩ := idx_split hx
    generalize sk.take (sk.idxOf x) = a at s2
    generalize hb : sk.drop (sk.idxOf x + 1) = b at s1 s2
    rw [s1]
    have chx : Ch E (x :: b) := by rw [s2] at ch; exact ch_right ch
    have cr : Ch E (x :: b ++ [x]) := by
      have hl : ∃ c, x :: b = c ++ [last] := by
        rcases List.eq_nil_or_concat b with rfl | ⟨c, z, rfl⟩
        · rw [s2] at hu
          have := (List.append_inj' hu rfl).2
          simp at this
          exact ⟨[], by simp [this]⟩
        · rw [s2] at hu
          have : (a ++ x :: c) ++ [z] = u ++ [last] := by simpa using hu
          have := (List.append_inj' this rfl).2
          simp at this
          exact ⟨x :: c, by simp [this]⟩
      obtain ⟨c, hc⟩ := hl
      rw [hc] at chx ⊢
      exact ch_snoc chx e
    have hlast : ws t (x :: b ++ [x]) = ws t (x :: b) + t last x := by
      have hl : ∃ c, x :: b = c ++ [last] := by
        rcases List.eq_nil_or_concat b with rfl | ⟨c, z, rfl⟩
        · rw [s2] at hu
          have := (List.append_inj' hu rfl).2
          simp at this
          exact ⟨[], by simp [this]⟩
        · rw [s2] at hu
          have : (a ++ x :: c) ++ [z] = u ++ [last] := by simpa using hu
          have := (List.append_inj' this rfl).2
          simp at this
          exact ⟨x :: c, by simp [this]⟩
      obtain ⟨c, hc⟩ := hl
      rw [hc, ws_snoc]
    refine ⟨fun r hr => ?_, ?_, ?_, ?_, ⟨a, rfl⟩, ?_⟩
    · rcases List.mem_append.mp hr with hr | hr
      · exact rg r hr
      · rw [List.mem_singleton] at hr
        subst hr
        refine ⟨by simp, ?_, by simpa using cr⟩
        rw [s2] at nd
        exact (List.nodup_append.mp nd).2.1
    · rw [s2] at nd
      have := List.nodup_append.mp nd
      refine List.nodup_append.mpr ⟨this.1, by simp, fun y hy z hz => ?_⟩
      rw [List.mem_singleton] at hz
      subst hz
      exact this.2.2 y hy z List.mem_cons_self
    · rw [s2] at ch
      exact ch_left ch
    · cases a with
      | nil =>
        rw [s2] at hv
        simp only [List.nil_append, List.cons.injEq] at hv
        exact ⟨[], by simp [hv.1]⟩
      | cons y a =>
        rw [s2] at hv
        simp only [List.cons_append, List.cons.injEq] at hv
        exact ⟨a ++ [x], by simp [hv.1]⟩
    · rw [sumR_snoc, ht]
      have e1 : ws t sk = ws t (a ++ [x]) + ws t (x :: b) := by rw [s2]; exact ws_app t x a b
      have e2 : rw_ t (x :: b) = ws t (x :: b) + t last x := by unfold rw_; simpa using hlast
      simp only
      omega
  · rename_i hx
    refine ⟨rg, ?_, ?_, ⟨v ++ [x], by rw [hv]; simp⟩, ⟨sk, rfl⟩, ?_⟩
    · refine List.nodup_append.mpr ⟨nd, by simp, fun y hy z hz => ?_⟩
      rw [List.mem_singleton] at hz
      subst hz
      exact fun q => hx (q ▸ hy)
    · rw [hu] at ch ⊢
      exact ch_snoc ch e
    · simp only
      rw [ht, hu, ws_snoc]
      omega
theorem ri_walk {E : Nat → Nat → Prop} {t : Nat → Nat → Int} {s : Nat} : ∀ (w : List Nat) (last : Nat) (tot : Int) (st : List (List Nat) × List Nat), RI E t s last tot st → Ch E (last :: w) →
    ∃ z, RI E t s z (tot + ws t (last :: w)) (w.foldl rstep st) ∧ (last :: w).getLast? = some z
  | [], last, tot, st, h, _ => ⟨last, by simpa [ws] using h, rfl⟩
  | x :: w, last, tot, st, h, c => by
    obtain ⟨z, h1, h2⟩ := ri_walk w x (tot + t last x) (rstep st x) (h.step c.1) c.2
    refine ⟨z, ?_, by rw [List.getLast?_cons_cons]; exact h2⟩
    have : tot + ws t (last :: x :: w) = tot + t last x + ws t (x :: w) := by simp only [ws]; omega
    rw [this]
    exact h1
/-- a walk from a place back to it is made of rings that weigh the same together -/
theorem rings_of {E : Nat → Nat → Prop} (t : Nat → Nat → Int) {s : Nat} {w : List Nat} (c : Ch E (s :: w)) (hl : (s :: w).getLast? = some s) : (∀ r ∈ ringsIn (s :: w), Rg E r) ∧ sumR t (ringsIn (s :: w)) = ws t (s :: w) := by
  have h0 : RI E t s s 0 ([], [s]) := ⟨by simp, by simp, trivial, ⟨[], rfl⟩, ⟨[], rfl⟩, by simp [ws, sumR]⟩
  obtain ⟨z, h1, h2⟩ := ri_walk w s 0 _ h0 c
  rw [hl] at h2
  cases h2
  have e : ringsIn (s :: w) = (w.foldl rstep ([], [s])).1 := by
    unfold ringsIn
    rw [List.foldl_cons]
    simp [rstep]
  obtain ⟨rg, nd, _, ⟨v, hv⟩, ⟨u, hu⟩, ht⟩ := h1
  rw [e]
  refine ⟨rg, ?_⟩
  have hs : (w.foldl rstep ([], [s])).2 = [s] := by
    rw [hv] at hu nd
    cases v with
    | nil => exact hv
    | cons y v =>
      exfalso
      cases u with
      | nil => simp at hu
      | cons y' u =>
        simp only [List.cons_append, List.cons.injEq] at hu
        have : s ∈ y :: v := by rw [hu.2]; simp
        exact (List.nodup_cons.mp nd).1 this
  rw [hs] at ht
  simp [ws] at ht
  exact ht.symm
/-- if all rings weigh nothing, the walk does -/
theorem sumR_zero {t : Nat → Nat → Int} : ∀ {rs : List (List Nat)}, (∀ r ∈ rs, rw_ t r = 0) → sumR t rs = 0
  | [], _ => rfl
  | r :: rs, h => by simp only [sumR]; rw [h r List.mem_cons_self, sumR_zero fun x hx => h x (List.mem_cons_of_mem _ hx)]; rfl
/-! ### the placing that a ring turns -/
/-- behind x in the ring -/
def nxt (r : List Nat) (x : Nat) : Nat := r.getD ((r.idxOf x + 1) % r.length) 0
def turnP (p : Nat → Nat) (r : List Nat) (x : Nat) : Nat := if x ∈ r then p (nxt r x) else p x
theorem nxt_at {r : List Nat} (hn : r.Nodup) {i : Nat} {x : Nat} (h : r[i]? = some x) : nxt r x = r.getD ((i + 1) % r.length) 0 := by
  obtain ⟨hi, e⟩ := List.getElem?_eq_some_iff.mp h
  have : r.idxOf x = i := by
    rw [← e]
    exact List.Nodup.idxOf_getElem hn i hi
  unfold nxt
  rw [this]
theorem nxt_mem {r : List Nat} {x : Nat} (h : x ∈ r) : nxt r x ∈ r := by
  have hl : 0 < r.length := List.length_pos_of_mem h
  unfold nxt
  have hm := Nat.mod_lt (r.idxOf x + 1) hl
  rw [List.getD_eq_getElem?_getD, List.getElem?_eq_getElem hm]
  simp
theorem nxt_inj {r : List Nat} (hn : r.Nodup) {x y : Nat} (hx : x ∈ r) (hy : y ∈ r) (e : nxt r x = nxt r y) : x = y := by
  have hl : 0 < r.length := List.length_pos_of_mem hx
  obtain ⟨i, hi, rfl⟩ := List.mem_iff_getElem.mp hx
  obtain ⟨j, hj, rfl⟩ := List.mem_iff_getElem.mp hy
  rw [nxt_at hn (List.getElem?_eq_getElem hi), nxt_at hn (List.getElem?_eq_getElem hj)] at e
  have hi' := Nat.mod_lt (i + 1) hl
  have hj' := Nat.mod_lt (j + 1) hl
  rw [List.getD_eq_getElem?_getD, List.getD_eq_getElem?_getD, List.getElem?_eq_getElem hi', List.getElem?_eq_getElem hj'] at e
  have e2 : (i + 1) % r.length = (j + 1) % r.length := (List.getElem_inj hn).mp (by simpa using e)
  have : i = j := by
    by_cases h1 : i + 1 < r.length
    · by_cases h2 : j + 1 < r.length
      · rw [Nat.mod_eq_of_lt h1, Nat.mod_eq_of_lt h2] at e2; omega
      · have : j + 1 = r.length := by omega
        rw [Nat.mod_eq_of_lt h1, this, Nat.mod_self] at e2; omega
    · have h1' : i + 1 = r.length := by omega
      by_cases h2 : j + 1 < r.length
      · rw [Nat.mod_eq_of_lt h2, h1', Nat.mod_self] at e2; omega
      · omega
  subst this
  rfl
theorem ring_edge {E : Nat → Nat → Prop} {r : List Nat} (h : Rg E r) {x : Nat} (hx : x ∈ r) : E x (nxt r x) := by
  obtain ⟨i, hi, rfl⟩ := List.mem_iff_getElem.mp hx
  rw [nxt_at h.nd (List.getElem?_eq_getElem hi)]
  have key : ∀ (l : List Nat) (i : Nat) (a b : Nat), Ch E l → l[i]? = some a → l[i + 1]? = some b → E a b := by
    intro l
    induction l with
    | nil => intro i a b _ h; simp at h
    | cons y l ih =>
      intro i a b c h1 h2
      cases l with
      | nil => simp at h2
      | cons z l =>
        cases i with
        | zero => simp at h1 h2; subst h1; subst h2; exact c.1
        | succ i => exact ih i a b c.2 (by simpa using h1) (by simpa using h2)
  have hl : 0 < r.length := by omega
  refine key _ i _ _ h.ch (by rw [List.getElem?_append_left hi, List.getElem?_eq_getElem hi]) ?_
  by_cases h1 : i + 1 < r.length
  · rw [List.getElem?_append_left h1, Nat.mod_eq_of_lt h1, List.getD_eq_getElem?_getD, List.getElem?_eq_getElem h1]
    rfl
  · have e : i + 1 = r.length := by omega
    rw [List.getElem?_append_right (by omega), e, Nat.mod_self, Nat.sub_self]
    cases r with
    | nil => simp at hl
    | cons y r => simp
theorem ws_zip (t : Nat → Nat → Int) (f : Nat → Nat) : ∀ (l : List Nat) (z : Nat), (∀ i x, l[i]? = some x → (l ++ [z])[i + 1]? = some (f x)) → ws t (l ++ [z]) = ls (fun x => t x (f x)) l
  | [], z, _ => by simp [ws, ls]
  | [x], z, h => by
    have := h 0 x rfl
    simp at this
    simp [ws, ls, this]
  | x :: y :: l, z, h => by
    have h0 := h 0 x rfl
    simp at h0
    have ih := ws_zip t f (y :: l) z fun i a ha => by
      have := h (i + 1) a (by simpa using ha)
      simpa using this
    simp only [List.cons_append, ws, ls] at ih ⊢
    rw [ih, ← h0]
theorem ring_weight {t : Nat → Nat → Int} {r : List Nat} (hn : r.Nodup) (ne : r ≠ []) : rw_ t r = ls (fun x => t x (nxt r x)) r := by
  obtain ⟨z, s, rfl⟩ : ∃ z s, r = z :: s := by
    cases r with
    | nil => exact absurd rfl ne
    | cons z s => exact ⟨z, s, rfl⟩
  unfold rw_
  simp only [List.take_succ_cons, List.take_zero]
  refine ws_zip t _ _ z fun i x hx => ?_
  obtain ⟨hi, e⟩ := List.getElem?_eq_some_iff.mp hx
  rw [nxt_at hn hx]
  by_cases h1 : i + 1 < (z :: s).length
  · rw [List.getElem?_append_left h1, Nat.mod_eq_of_lt h1, List.getD_eq_getElem?_getD, List.getElem?_eq_getElem h1]
    rfl
  · have e : i + 1 = (z :: s).length := by omega
    rw [List.getElem?_append_right (by omega), e, Nat.mod_self, Nat.sub_self]
    simp
theorem nxt_perm {r : List Nat} (hn : r.Nodup) : (r.map (nxt r)).Perm r := by
  have h1 : (r.map (nxt r)).Nodup := nodup_map hn fun x hx y hy e => nxt_inj hn hx hy e
  have h2 : ∀ x ∈ r.map (nxt r), x ∈ r := fun x hx => by
    obtain ⟨y, hy, rfl⟩ := List.mem_map.mp hx
    exact nxt_mem hy
  exact perm_of_nodup h1 hn fun x => ⟨h2 x, nodup_all h1 h2 (by simp) x⟩
/-- a ring of ties turned: another placing, that weighs more by what the ring weighs -/
theorem turned {n : Nat} {E : Nat → Nat → Prop} {p : Nat → Nat} {r : List Nat} (hp : IsP n E p) (hr : Rg (Tie n E p) r) : IsP n E (turnP p r) ∧ ∀ w, W n w (turnP p r) = W n w p + rw_ (tw w p) r := by
  have hlt : ∀ x ∈ r, x < n := fun x hx => (ring_edge hr hx).1
  refine ⟨⟨⟨fun i hi => ?_, fun i j hi hj e => ?_⟩, fun i hi => ?_⟩, fun w => ?_⟩
  · unfold turnP
    split
    · rename_i hx
      exact hp.lt _ (hlt _ (nxt_mem hx))
    · exact hp.lt i hi
  · unfold turnP at e
    split at e
    · rename_i hx
      split at e
      · rename_i hy
        exact nxt_inj hr.nd hx hy (hp.inj _ _ (hlt _ (nxt_mem hx)) (hlt _ (nxt_mem hy)) e)
      · rename_i hy
        exact absurd (hp.inj _ _ (hlt _ (nxt_mem hx)) hj e ▸ nxt_mem hx) hy
    · rename_i hx
      split at e
      · rename_i hy
        exact absurd (hp.inj _ _ hi (hlt _ (nxt_mem hy)) e ▸ nxt_mem hy) hx
      · exact hp.inj _ _ hi hj e
  · unfold turnP
    split
    · rename_i hx
      exact (ring_edge hr hx).2.2.2
    · exact hp.at_ i hi
  · unfold W
    have h1 := sm_list (f := fun i => w i (turnP p r i)) (g := fun i => w i (p i)) (n := n) r hr.nd hlt (fun i _ hi => by
      show w i (turnP p r i) = w i (p i)
      unfold turnP
      rw [if_neg hi])
    rw [h1, ring_weight hr.nd hr.ne]
    have h2 : ls (fun x => tw w p x (nxt r x)) r = ls (fun x => w x (p (nxt r x))) r - ls (fun x => w (nxt r x) (p (nxt r x))) r := by
      clear h1
      generalize nxt r = f
      clear hlt hr
      induction r with
      | nil => simp [ls]
      | cons x r ih => simp only [ls, tw] at ih ⊢; omega
    have h3 : ls (fun x => w (nxt r x) (p (nxt r x))) r = ls (fun x => w x (p x)) r := by
      rw [← ls_map (fun x => w x (p x)) (nxt r) r, ls_perm (nxt_perm hr.nd)]
    have h4 : ls (fun x => w x (turnP p r x) - w x (p x)) r = ls (fun x => w x (p (nxt r x))) r - ls (fun x => w x (p x)) r := by
      rw [ls_congr (g := fun x => w x (p (nxt r x)) - w x (p x)) r fun x hx => by unfold turnP; rw [if_pos hx]]
      clear h1 h2 h3 hlt hr
      generalize nxt r = f
      induction r with
      | nil => simp [ls]
      | cons y r ih2 => simp only [ls] at ih2 ⊢; omega
    rw [h2, h3, h4]
/-! ### leads to -/
inductive Rc (E : Nat → Nat → Prop) (a : Nat) : Nat → Prop
  | refl : Rc E a a
  | step {b c : Nat} : Rc E a b → E b c → Rc E a c
theorem Rc.trans {E : Nat → Nat → Prop} {a b c : Nat} (h : Rc E a b) (k : Rc E b c) : Rc E a c := by
  induction k with
  | refl => exact h
  | step _ e ih => exact .step ih e
theorem Rc.of {E : Nat → Nat → Prop} {a b : Nat} (e : E a b) : Rc E a b := .step .refl e
inductive Tc (E : Nat → Nat → Prop) : Nat → Nat → Prop
  | one {a b : Nat} : E a b → Tc E a b
  | cons {a b c : Nat} : E a b → Tc E b c → Tc E a c
theorem Tc.trans {E : Nat → Nat → Prop} {a b c : Nat} (h : Tc E a b) (k : Tc E b c) : Tc E a c := by
  induction h with
  | one e => exact .cons e k
  | cons e _ ih => exact .cons e (ih k)
/-- of ties that stand on a ring each leads back -/
theorem back {T R I : Nat → Nat → Prop} (he : ∀ a b, T a b → R a b) (ht : ∀ a b c, R a b → R b c → R a c) (hs : ∀ a b, R a b → Tc T a b) (hI : ∀ a b, I a b ↔ T a b ∧ R b a) {a b : Nat} (h : I a b) : Rc I b a := by
  have hab := (hI a b).mp h
  have tcR : ∀ x y, Tc T x y → R x y := fun x y k => by
    induction k with
    | one e => exact he _ _ e
    | cons e _ ih => exact ht _ _ _ (he _ _ e) ih
  have key : ∀ x y, Tc T x y → y = a → (x = b ∨ R b x) → Rc I x y := fun x y k => by
    induction k with
    | @one x y e =>
      intro ey hx
      subst ey
      refine Rc.of ((hI _ _).mpr ⟨e, ?_⟩)
      rcases hx with rfl | hx
      · exact he _ _ hab.1
      · exact ht _ _ _ (he _ _ hab.1) hx
    | @cons x y z e k ih =>
      intro ez hx
      subst ez
      have rzx : R z x := by
        rcases hx with rfl | hx
        · exact he _ _ hab.1
        · exact ht _ _ _ (he _ _ hab.1) hx
      refine (Rc.of ((hI _ _).mpr ⟨e, ht _ _ _ (tcR _ _ k) rzx⟩)).trans (ih rfl ?_)
      rcases hx with rfl | hx
      · exact .inr (he _ _ e)
      · exact .inr (ht _ _ _ hx (he _ _ e))
  exact key b a (hs _ _ hab.2) rfl (.inl rfl)
theorem sym_rc {I : Nat → Nat → Prop} (h : ∀ a b, I a b → Rc I b a) {a b : Nat} (k : Rc I a b) : Rc I b a := by
  induction k with
  | refl => exact .refl
  | step _ e ih => exact (h _ _ e).trans ih
/-- a walk from s weighs what a potential says -/
theorem ws_pot {I : Nat → Nat → Prop} {t : Nat → Nat → Int} {f : Nat → Int} {s : Nat} (hf : ∀ x y, Rc I s x → I x y → f y = f x + t x y) : ∀ (w : List Nat) (x z : Nat), Rc I s x → Ch I (x :: w) → (x :: w).getLast? = some z → ws t (x :: w) = f z - f x ∧ Rc I s z
  | [], x, z, hx, _, hl => by
    simp at hl
    subst hl
    exact ⟨by simp [ws], hx⟩
  | y :: w, x, z, hx, c, hl => by
    rw [List.getLast?_cons_cons] at hl
    obtain ⟨h1, h2⟩ := ws_pot hf w y z (.step hx c.1) c.2 hl
    refine ⟨?_, h2⟩
    have := hf x y hx c.1
    simp only [ws]
    omega
theorem rc_walk {I : Nat → Nat → Prop} : ∀ (w : List Nat) (x z : Nat), Ch I (x :: w) → (x :: w).getLast? = some z → Rc I x z
  | [], x, z, _, hl => by simp at hl; subst hl; exact .refl
  | y :: w, x, z, c, hl => by
    rw [List.getLast?_cons_cons] at hl
    exact (Rc.of c.1).trans (rc_walk w y z c.2 hl)
end UM
end
section
/-! Unitgrids: what a value is (whole numbers, truth values, texts, None, nested tuples), what a list of such is; how it stays; readings of the rules in these words. -/
namespace UG
open PySem PySem.Spec PyProof.Rows L2
open PySem.W (Datum DatumOrd Tup)
/-! ### values that never change -/
mutual
inductive Is (K : PySem.W.Frag) (H : Hp) : V → PyData → Prop
  | non : Is K H .non .none
  | bl (b : Bool) : Is K H (.bl b) (.bool b)
  | int (i : Int) : Is K H (.int i) (.int i)
  | str (x : Str) : Is K H (.str x) (.str x)
  | tup {a : Addr} {xs : List V} {ds : List PyData} : SqT K H a xs → IsA K H xs ds → Is K H (.ref a) (.tuple ds)
inductive IsA (K : PySem.W.Frag) (H : Hp) : List V → List PyData → Prop
  | nil : IsA K H [] []
  | cons {v : V} {vs : List V} {d : PyData} {ds : List PyData} : Is K H v d → IsA K H vs ds → IsA K H (v :: vs) (d :: ds)
end
/-- the tuples of H stand in H' -/
def Tk (H H' : Hp) : Prop := ∀ a xs, Rd H a (.tup xs) → Rd H' a (.tup xs)
theorem Tk.refl (H : Hp) : Tk H H := fun _ _ h => h
theorem Tk.trans {H H1 H2 : Hp} (a : Tk H H1) (b : Tk H1 H2) : Tk H H2 := fun x xs h => b x xs (a x xs h)
theorem Tk.same {H H' : Hp} (s : Same H H') : Tk H H' := fun a xs h => by
  rcases h with h | ⟨o, h⟩
  · exact .inl (s _ _ h)
  · exact .inr ⟨o, s _ _ h⟩
/-- what is no tuple is written -/
theorem Tk.at {H : Hp} {l : Addr} {u o : HO} (h : H l = some u) (n1 : ∀ xs, u ≠ .tup xs) (n2 : ∀ ob w, u ≠ .frz ob w) : Tk H (upd H l o) := fun a xs r => by
  have ne : a ≠ l := fun e => by
    subst e
    rcases r with r | ⟨ob, r⟩
    · rw [r] at h; exact n1 _ (Option.some.inj h).symm
    · rw [r] at h; exact n2 _ _ (Option.some.inj h).symm
  rcases r with r | ⟨ob, r⟩
  · exact .inl (by rw [upd_ne ne]; exact r)
  · exact .inr ⟨ob, by rw [upd_ne ne]; exact r⟩
theorem Tk.lst {H : Hp} {l : Addr} {xs : List V} {o : HO} (h : H l = some (.lst xs)) : Tk H (upd H l o) := Tk.at h (fun _ e => by cases e) (fun _ _ e => by cases e)
theorem Tk.dK {H : Hp} {l : Addr} {xs : List (Key × V)} {o : HO} (h : H l = some (.dK xs)) : Tk H (upd H l o) := Tk.at h (fun _ e => by cases e) (fun _ _ e => by cases e)
theorem Tk.ext {H : Hp} {l : Addr} {φ : Heap → Prop} {o : HO} (h : H l = some (.ext φ)) : Tk H (upd H l o) := Tk.at h (fun _ e => by cases e) (fun _ _ e => by cases e)
theorem same_upd {H : Hp} {p : Addr} {o : HO} (h : H p = none) : Same H (upd H p o) := fun b x e => by
  rw [upd_ne (ne_of_none e h)]
  exact e
theorem Tk.new {H : Hp} {p : Addr} {o : HO} (h : H p = none) : Tk H (upd H p o) := Tk.same (same_upd h)
/-- an object outside B is written -/
theorem _root_.L2.Same.out {B H : Hp} {l : Addr} {o : HO} (s : Same B H) (n : B l = none) : Same B (upd H l o) := fun b x e => by
  rw [upd_ne (ne_of_none e n)]
  exact s _ _ e
theorem _root_.L2.Same.new {B H : Hp} {l : Addr} {o : HO} (s : Same B H) (n : H l = none) : Same B (upd H l o) := s.out (s.free n)
theorem SqT.tk {K : PySem.W.Frag} {H H' : Hp} {a : Addr} {xs : List V} (t : Tk H H') (h : SqT K H a xs) : SqT K H' a xs := by
  rcases h with h | h
  · exact .inl (t _ _ h)
  · exact .inr h
section
variable {K : PySem.W.Frag} {H H' : Hp}
mutual
theorem Is.tk (t : Tk H H') : ∀ {v : V} {d : PyData}, Is K H v d → Is K H' v d
  | _, _, .non => .non
  | _, _, .bl b => .bl b
  | _, _, .int i => .int i
  | _, _, .str x => .str x
  | _, _, .tup h a => .tup (SqT.tk t h) (IsA.tk t a)
theorem IsA.tk (t : Tk H H') : ∀ {vs : List V} {ds : List PyData}, IsA K H vs ds → IsA K H' vs ds
  | _, _, .nil => .nil
  | _, _, .cons h a => .cons (Is.tk t h) (IsA.tk t a)
end
theorem Is.same (s : Same H H') {v : V} {d : PyData} (h : Is K H v d) : Is K H' v d := Is.tk (Tk.same s) h
theorem IsA.same (s : Same H H') {vs : List V} {ds : List PyData} (h : IsA K H vs ds) : IsA K H' vs ds := IsA.tk (Tk.same s) h
mutual
theorem Is.dp : ∀ {v : V} {d : PyData}, Is K H v d → Dp K H v d
  | _, _, .non => .non
  | _, _, .bl b => .bl b
  | _, _, .int i => .int i
  | _, _, .str x => .str x
  | _, _, .tup h a => .tup h (IsA.dp a)
theorem IsA.dp : ∀ {vs : List V} {ds : List PyData}, IsA K H vs ds → DpAll K H vs ds
  | _, _, .nil => .nil
  | _, _, .cons h a => .cons (Is.dp h) (IsA.dp a)
end
theorem Is.int_eq {v : V} {i : Int} (h : Is K H v (.int i)) : v = .int i := by cases h; rfl
theorem Is.bl_eq {v : V} {b : Bool} (h : Is K H v (.bool b)) : v = .bl b := by cases h; rfl
theorem Is.non_eq {v : V} (h : Is K H v .none) : v = .non := by cases h; rfl
theorem Is.tup_ex {v : V} {ds : List PyData} (h : Is K H v (.tuple ds)) : ∃ a xs, v = .ref a ∧ SqT K H a xs ∧ IsA K H xs ds := by
  cases h with
  | tup h a => exact ⟨_, _, rfl, h, a⟩
theorem IsA.length : ∀ {vs : List V} {ds : List PyData}, IsA K H vs ds → vs.length = ds.length
  | _, _, .nil => rfl
  | _, _, .cons h a => by rw [List.length_cons, List.length_cons, IsA.length a]
theorem IsA.get : ∀ {vs : List V} {ds : List PyData} {i : Nat} {d : PyData}, IsA K H vs ds → ds[i]? = some d → ∃ v, vs[i]? = some v ∧ Is K H v d
  | _, _, _, _, .nil, e => by simp at e
  | _, _, 0, _, .cons h a, e => by simp at e; subst e; exact ⟨_, rfl, h⟩
  | _, _, i + 1, _, .cons h a, e => by
    obtain ⟨v, h1, h2⟩ := IsA.get (i := i) a (by simpa using e)
    exact ⟨v, by simpa using h1, h2⟩
theorem IsA.get' {vs : List V} {ds : List PyData} {i : Nat} {v : V} (h : IsA K H vs ds) (e : vs[i]? = some v) : ∃ d, ds[i]? = some d ∧ Is K H v d := by
  have hi : i < ds.length := by
    rw [← h.length]
    exact (List.getElem?_eq_some_iff.mp e).1
  obtain ⟨w, h1, h2⟩ := h.get (List.getElem?_eq_getElem hi)
  rw [e] at h1
  cases h1
  exact ⟨_, List.getElem?_eq_getElem hi, h2⟩
theorem IsA.append : ∀ {vs ws : List V} {ds es : List PyData}, IsA K H vs ds → IsA K H ws es → IsA K H (vs ++ ws) (ds ++ es)
  | _, _, _, _, .nil, h => h
  | _, _, _, _, .cons h a, g => .cons h (IsA.append a g)
theorem IsA.one {v : V} {d : PyData} (h : Is K H v d) : IsA K H [v] [d] := .cons h .nil
theorem IsA.snoc {vs : List V} {ds : List PyData} {v : V} {d : PyData} (a : IsA K H vs ds) (h : Is K H v d) : IsA K H (vs ++ [v]) (ds ++ [d]) := a.append (.one h)
theorem IsA.drop : ∀ {vs : List V} {ds : List PyData} (n : Nat), IsA K H vs ds → IsA K H (vs.drop n) (ds.drop n)
  | _, _, 0, h => h
  | _, _, _ + 1, .nil => .nil
  | _, _, n + 1, .cons _ a => IsA.drop n a
theorem IsA.take : ∀ {vs : List V} {ds : List PyData} (n : Nat), IsA K H vs ds → IsA K H (vs.take n) (ds.take n)
  | _, _, 0, _ => .nil
  | _, _, _ + 1, .nil => .nil
  | _, _, n + 1, .cons h a => .cons h (IsA.take n a)
theorem IsA.set {v : V} {d : PyData} (h : Is K H v d) : ∀ {vs : List V} {ds : List PyData} (i : Nat), IsA K H vs ds → IsA K H (vs.set i v) (ds.set i d)
  | _, _, _, .nil => .nil
  | _, _, 0, .cons _ a => .cons h a
  | _, _, i + 1, .cons g a => .cons g (IsA.set h i a)
theorem IsA.reverse : ∀ {vs : List V} {ds : List PyData}, IsA K H vs ds → IsA K H vs.reverse ds.reverse
  | _, _, .nil => .nil
  | _, _, .cons h a => by rw [List.reverse_cons, List.reverse_cons]; exact (IsA.reverse a).snoc h
theorem IsA.rep {v : V} {d : PyData} (h : Is K H v d) : ∀ n : Nat, IsA K H (List.replicate n v) (List.replicate n d)
  | 0 => .nil
  | n + 1 => .cons h (IsA.rep h n)
theorem IsA.ints : ∀ ns : List Int, IsA K H (ns.map V.int) (ns.map PyData.int)
  | [] => .nil
  | n :: ns => .cons (.int n) (IsA.ints ns)
theorem IsA.bls : ∀ ns : List Bool, IsA K H (ns.map V.bl) (ns.map PyData.bool)
  | [] => .nil
  | n :: ns => .cons (.bl n) (IsA.bls ns)
theorem IsA.ints_eq : ∀ {vs : List V} {ns : List Int}, IsA K H vs (ns.map PyData.int) → vs = ns.map V.int
  | _, [], .nil => rfl
  | _, n :: ns, .cons h a => by rw [h.int_eq, IsA.ints_eq a]; rfl
theorem IsA.eq_ints {vs : List V} {ns : List Int} (e : vs = ns.map V.int) : IsA K H vs (ns.map PyData.int) := e ▸ IsA.ints ns
theorem Is.new {p : Addr} {xs : List V} {ds : List PyData} (h : H' p = some (.tup xs)) (a : IsA K H' xs ds) : Is K H' (.ref p) (.tuple ds) := .tup (SqT.of h) a
/-- a new tuple of such values -/
theorem Is.mk {p : Addr} {xs : List V} {ds : List PyData} (n : H p = none) (a : IsA K H xs ds) : Is K (upd H p (.tup xs)) (.ref p) (.tuple ds) := .tup (SqT.of upd_same) (IsA.tk (Tk.new n) a)
/-- mapped -/
theorem IsA.getM {α : Type} {f : α → PyData} {vs : List V} {xs : List α} {i : Nat} {x : α} (h : IsA K H vs (xs.map f)) (e : xs[i]? = some x) : ∃ v, vs[i]? = some v ∧ Is K H v (f x) := h.get (by rw [List.getElem?_map, e]; rfl)
theorem IsA.getM' {α : Type} {f : α → PyData} {vs : List V} {xs : List α} {i : Nat} {v : V} (h : IsA K H vs (xs.map f)) (e : vs[i]? = some v) : ∃ x, xs[i]? = some x ∧ Is K H v (f x) := by
  obtain ⟨d, hd, hv⟩ := h.get' e
  rw [List.getElem?_map] at hd
  cases q : xs[i]? with
  | none => rw [q] at hd; cases hd
  | some x => rw [q] at hd; cases hd; exact ⟨x, rfl, hv⟩
theorem Is.notNon {v : V} {ds : List PyData} (h : Is K H v (.tuple ds)) : v ≠ .non := by
  obtain ⟨a, xs, rfl, _⟩ := h.tup_ex
  intro e; cases e
/-! ### lists of such values -/
def IsL (K : PySem.W.Frag) (H : Hp) (l : Addr) (ds : List PyData) : Prop := ∃ xs, H l = some (.lst xs) ∧ IsA K H xs ds
theorem IsL.same {l : Addr} {ds : List PyData} (s : Same H H') (h : IsL K H l ds) : IsL K H' l ds := let ⟨xs, e, a⟩ := h; ⟨xs, s _ _ e, a.same s⟩
theorem IsL.ne {l p : Addr} {o : HO} {ds : List PyData} (t : Tk H (upd H p o)) (ne : l ≠ p) (h : IsL K H l ds) : IsL K (upd H p o) l ds := let ⟨xs, e, a⟩ := h; ⟨xs, by rw [upd_ne ne]; exact e, a.tk t⟩
theorem IsL.mk {l : Addr} {xs : List V} {ds : List PyData} (n : H l = none) (a : IsA K H xs ds) : IsL K (upd H l (.lst xs)) l ds := ⟨xs, upd_same, a.tk (Tk.new n)⟩
theorem IsL.put {l : Addr} {xs ys : List V} {ds : List PyData} (h : H l = some (.lst xs)) (a : IsA K H ys ds) : IsL K (upd H l (.lst ys)) l ds := ⟨ys, upd_same, a.tk (Tk.lst h)⟩
theorem IsL.sq {l : Addr} {ds : List PyData} (h : IsL K H l ds) : ∃ xs, SqL K H l xs ∧ IsA K H xs ds := let ⟨xs, e, a⟩ := h; ⟨xs, SqL.of e, a⟩
/-! ### the rules' readings -/
variable {Q : VK} {x y : V}
theorem r_ixT {ds : List PyData} {i : Int} {j : Nat} {d : PyData} (hx : Is K H x (.tuple ds)) (hi : y = .int i) (hj : ixN ds.length i = some j) (hd : ds[j]? = some d) (q : ∀ v, Is K H v d → Q v H) : rIxT K x y H Q := by
  obtain ⟨a, xs, rfl, ht, ha⟩ := hx.tup_ex
  obtain ⟨v, hv, iv⟩ := ha.get hd
  exact ⟨a, xs, i, v, rfl, hi, ht, by unfold atI; rw [ha.length, hj]; exact hv, q v iv⟩
theorem ixN_nat {n j : Nat} (h : j < n) : ixN n (j : Int) = some j := by
  unfold ixN
  rw [if_pos (Int.natCast_nonneg j), if_pos (by omega)]
  simp
theorem r_ixTn {ds : List PyData} {j : Nat} {d : PyData} (hx : Is K H x (.tuple ds)) (hi : y = .int (j : Nat)) (hd : ds[j]? = some d) (q : ∀ v, Is K H v d → Q v H) : rIxT K x y H Q :=
  r_ixT hx hi (ixN_nat (List.getElem?_eq_some_iff.mp hd).1) hd q
theorem r_ixL {l : Addr} {ds : List PyData} {i : Int} {j : Nat} {d : PyData} (hx : x = .ref l) (hl : IsL K H l ds) (hi : y = .int i) (hj : ixN ds.length i = some j) (hd : ds[j]? = some d) (q : ∀ v, Is K H v d → Q v H) : rIxL K x y H Q := by
  obtain ⟨xs, ht, ha⟩ := hl.sq
  obtain ⟨v, hv, iv⟩ := ha.get hd
  exact ⟨l, xs, i, v, hx, hi, ht, by unfold atI; rw [ha.length, hj]; exact hv, q v iv⟩
theorem r_ixLn {l : Addr} {ds : List PyData} {j : Nat} {d : PyData} (hx : x = .ref l) (hl : IsL K H l ds) (hi : y = .int (j : Nat)) (hd : ds[j]? = some d) (q : ∀ v, Is K H v d → Q v H) : rIxL K x y H Q :=
  r_ixL hx hl hi (ixN_nat (List.getElem?_eq_some_iff.mp hd).1) hd q
/-- == and != of such values -/
theorem r_eq {d e : PyData} (hx : Is K H x d) (hy : Is K H y e) (sd : SeqAt.shaped d = true) (se : SeqAt.shaped e = true) (q : Q (.bl (PyData.eqv d e)) H) : rEqD K x y H Q := ⟨d, e, hx.dp, hy.dp, sd, se, q⟩
theorem r_ne {d e : PyData} (hx : Is K H x d) (hy : Is K H y e) (sd : SeqAt.shaped d = true) (se : SeqAt.shaped e = true) (q : Q (.bl (!PyData.eqv d e)) H) : rNeD K x y H Q := ⟨d, e, hx.dp, hy.dp, sd, se, q⟩
/-- the tuple display -/
theorem r_len {ds : List PyData} (hx : Is K H x (.tuple ds)) (q : Q (.int (ds.length : Nat)) H) : (fun xs H Q => ∃ p ys, xs = [.ref p] ∧ (SqL K H p ys ∨ SqT K H p ys) ∧ Q (.int (ys.length : Nat)) H : List V → Hp → VK → Prop) [x] H Q := by
  obtain ⟨a, xs, rfl, ht, ha⟩ := hx.tup_ex
  exact ⟨a, xs, rfl, .inr ht, by rw [ha.length]; exact q⟩
theorem r_lenL {l : Addr} {ds : List PyData} (hl : IsL K H l ds) (q : Q (.int (ds.length : Nat)) H) : (fun xs H Q => ∃ p ys, xs = [.ref p] ∧ (SqL K H p ys ∨ SqT K H p ys) ∧ Q (.int (ys.length : Nat)) H : List V → Hp → VK → Prop) [.ref l] H Q := by
  obtain ⟨xs, ht, ha⟩ := hl.sq
  exact ⟨l, xs, rfl, .inl ht, by rw [ha.length]; exact q⟩
end
/-! ### what the units are: exponents by twice their size -/
def fr (n : Int) : PyData := if n % 2 = 0 then .tuple [.int (n / 2), .int 1] else .tuple [.int n, .int 2]
def frp (n : Int) : Int × Int := if n % 2 = 0 then (n / 2, 1) else (n, 2)
theorem fr_eq (n : Int) : fr n = .tuple [.int (frp n).1, .int (frp n).2] := by
  unfold fr frp
  split <;> rfl
theorem fr_toD (n : Int) : fr n = Datum.toD (frp n) := by rw [fr_eq]; rfl
theorem frp_inj {m n : Int} (h : frp m = frp n) : m = n := by
  unfold frp at h
  split at h <;> split at h <;> simp only [Prod.mk.injEq] at h <;> omega
theorem frp_twice (n : Int) : 2 * (frp n).1 = n * (frp n).2 := by
  unfold frp
  split
  · show 2 * (n / 2) = n * 1; omega
  · show 2 * n = n * 2; omega
theorem frp_below (n : Int) : (frp n).2 = 1 ∨ (frp n).2 = 2 := by
  unfold frp
  split
  · exact .inl rfl
  · exact .inr rfl
/-- a unit -/
abbrev Ut := List Int
def un (u : Ut) : PyData := .tuple (u.map fr)
def unT (u : Ut) : Tup (Int × Int) := ⟨u.map frp⟩
theorem un_toD (u : Ut) : un u = Datum.toD (unT u) := by
  show PyData.tuple (u.map fr) = PyData.tuple ((u.map frp).map Datum.toD)
  rw [List.map_map]
  exact congrArg PyData.tuple (List.map_congr_left fun n _ => fr_toD n)
theorem map_frp_inj : ∀ {a b : List Int}, a.map frp = b.map frp → a = b
  | [], [], _ => rfl
  | [], _ :: _, h => by cases h
  | _ :: _, [], h => by cases h
  | x :: a, y :: b, h => by
    rw [List.map_cons, List.map_cons, List.cons.injEq] at h
    rw [frp_inj h.1, map_frp_inj h.2]
theorem unT_inj {a b : Ut} (h : unT a = unT b) : a = b := map_frp_inj (congrArg Tup.items h)
theorem un_eqv (a b : Ut) : PyData.eqv (un a) (un b) = decide (a = b) := by
  rw [un_toD, un_toD, Datum.eqv]
  exact decide_eq_decide.mpr ⟨unT_inj, fun e => by rw [e]⟩
/-- a cell, a row, the rows -/
def cel : Option Ut → PyData
  | none => .none
  | some u => un u
def row (r : List (Option Ut)) : PyData := .tuple (r.map cel)
def rws (g : List (List (Option Ut))) : PyData := .tuple (g.map row)
/-- tuples of whole numbers, pairs, lots -/
def tis (ns : List Int) : PyData := .tuple (ns.map PyData.int)
def pr (p : Int × Int) : PyData := .tuple [.int p.1, .int p.2]
def lot (l : List (Int × Int)) : PyData := .tuple (l.map pr)
theorem pr_toD (p : Int × Int) : pr p = Datum.toD p := rfl
theorem lot_toD (l : List (Int × Int)) : lot l = Datum.toD (Tup.mk l) := rfl
theorem lot_eqv (a b : List (Int × Int)) : PyData.eqv (lot a) (lot b) = decide (a = b) := by
  rw [lot_toD, lot_toD, Datum.eqv]
  exact decide_eq_decide.mpr ⟨fun e => congrArg Tup.items e, fun e => by rw [e]⟩
end UG
end
section
/-! Unitgrids: what the text's top has left (the defs, the class, the numbers, the free names of builtins), and a call of a def that keeps a promise. -/
namespace UG
open PySem PySem.Spec PyProof.Rows L2
/-- a def of the top, under its name -/
def HasD (K : PySem.W.Frag) (mg : Str → Option Value) (x : Str) (st : Stmt) : Prop := ∃ f fd, FunD K x x (defArgs st) (defBody st) (defScope st) [] [] f fd ∧ mg x = some (.ref f)
structure Txt (K : PySem.W.Frag) (mg : Str → Option Value) : Prop where
  x_is_integer : HasD K mg "is_integer" s_is_integer
  x_is_within : HasD K mg "is_within" s_is_within
  x_check_number : HasD K mg "check_number" s_check_number
  x_divisor : HasD K mg "divisor" s_divisor
  x_lowest : HasD K mg "lowest" s_lowest
  x_is_fraction : HasD K mg "is_fraction" s_is_fraction
  x_plus : HasD K mg "plus" s_plus
  x_minus : HasD K mg "minus" s_minus
  x_is_unit_of : HasD K mg "is_unit_of" s_is_unit_of
  x_unitless : HasD K mg "unitless" s_unitless
  x_unit_plus : HasD K mg "unit_plus" s_unit_plus
  x_unit_minus : HasD K mg "unit_minus" s_unit_minus
  x_is_part : HasD K mg "is_part" s_is_part
  x_is_cell : HasD K mg "is_cell" s_is_cell
  x_check_rows : HasD K mg "check_rows" s_check_rows
  x_sizes_of : HasD K mg "sizes_of" s_sizes_of
  x_with_cell : HasD K mg "with_cell" s_with_cell
  x_reached_by : HasD K mg "reached_by" s_reached_by
  x_turned_rows : HasD K mg "turned_rows" s_turned_rows
  x_shortest_walks : HasD K mg "shortest_walks" s_shortest_walks
  x_weight_of : HasD K mg "weight_of" s_weight_of
  x_two_walks : HasD K mg "two_walks" s_two_walks
  x_ring_ties : HasD K mg "ring_ties" s_ring_ties
  x_ring_heights : HasD K mg "ring_heights" s_ring_heights
  x_rings_in : HasD K mg "rings_in" s_rings_in
  x_least_first : HasD K mg "least_first" s_least_first
  x_ring_weight : HasD K mg "ring_weight" s_ring_weight
  x_heavy_ring : HasD K mg "heavy_ring" s_heavy_ring
  x_check_square_grid : HasD K mg "check_square_grid" s_check_square_grid
  x_take_column : HasD K mg "take_column" s_take_column
  x_placed : HasD K mg "placed" s_placed
  x_raw_placing : HasD K mg "raw_placing" s_raw_placing
  x_placing_ties : HasD K mg "placing_ties" s_placing_ties
  x_placing_unit : HasD K mg "placing_unit" s_placing_unit
  x_raw_determinant_verdict : HasD K mg "raw_determinant_verdict" s_raw_determinant_verdict
  x_determinant_verdict : HasD K mg "determinant_verdict" s_determinant_verdict
  x_two_placings : HasD K mg "two_placings" s_two_placings
  x_least_lot : HasD K mg "least_lot" s_least_lot
  x_struck : HasD K mg "struck" s_struck
  x_fewest_struck : HasD K mg "fewest_struck" s_fewest_struck
  x_L_hand : HasD K mg "_law_hand" s_L_hand
  x_L_draw : HasD K mg "_law_draw" s_L_draw
  x_L_lowest : HasD K mg "_law_lowest" s_L_lowest
  x_L_plus : HasD K mg "_law_plus" s_L_plus
  x_L_unit_sum : HasD K mg "_law_unit_sum" s_L_unit_sum
  x_L_unitless : HasD K mg "_law_unitless" s_L_unitless
  x_L_total : HasD K mg "_law_total" s_L_total
  x_L_unit : HasD K mg "_law_unit" s_L_unit
  x_L_rows : HasD K mg "_law_rows" s_L_rows
  x_L_drawn : HasD K mg "_law_drawn" s_L_drawn
  x_L_made : HasD K mg "_law_made" s_L_made
  x_L_placings : HasD K mg "_law_placings" s_L_placings
  x_L_placed : HasD K mg "_law_placed" s_L_placed
  x_L_lots : HasD K mg "_law_lots" s_L_lots
  x_L_due : HasD K mg "_law_due" s_L_due
  x_L_ring_right : HasD K mg "_law_ring_right" s_L_ring_right
  x_law : HasD K mg "law" s_law
  e_MOST_BASES : ∃ t, mg "MOST_BASES" = some (.int 3 t)
  e_MOST_ROWS : ∃ t, mg "MOST_ROWS" = some (.int 10 t)
  e_MOST_TOP : ∃ t, mg "MOST_TOP" = some (.int 6 t)
  e_MOST_BOTTOM : ∃ t, mg "MOST_BOTTOM" = some (.int 4 t)
  e_MOST_CELLS : ∃ t, mg "MOST_CELLS" = some (.int 3 t)
  b_len : mg "len" = none
  b_range : mg "range" = none
  b_zip : mg "zip" = none
  b_enumerate : mg "enumerate" = none
  b_tuple : mg "tuple" = none
  b_list : mg "list" = none
  b_int : mg "int" = none
  b_abs : mg "abs" = none
  b_all : mg "all" = none
  b_isinstance : mg "isinstance" = none
  b_sorted : mg "sorted" = none
  b_min : mg "min" = none
  b_sum : mg "sum" = none
  b_set : mg "set" = none
  b_bool : mg "bool" = none
  g_Grid : mg "Grid" = some (.ref (He.ga K "Grid"))
  cls : Cls K (He.ga K "Grid")
  nBases : NoAttr K (He.ga K "Grid") "bases"
  nRows : NoAttr K (He.ga K "Grid") "rows"
  mkr : Mk K (He.ga K "Grid") (He.ma K (He.ga K "Grid") "__init__")
  x_Grid_init : ∃ fd, FunD K "__init__" "Grid.__init__" (defArgs s_Grid_init) (defBody s_Grid_init) (defScope s_Grid_init) [] [] (He.ma K (He.ga K "Grid") "__init__") fd
section
variable {P : Program} {w : World} {K : PySem.W.Frag} {mg : Str → Option Value} {base : Heap}
/-- a def that may be called by its name -/
def Ok (P : Program) (w : World) (K : PySem.W.Frag) (mg : Str → Option Value) (base : Heap) (x : Str) (ps : List Str) (k : Nat) (sp : Sp) : Prop :=
  ∃ f fd, FnOk P w K mg base CX0 k f fd ps sp ∧ mg x = some (.ref f) ∧ PySem.W.keepIn K (.ref f) = true ∧ Binds K fd ps []
theorem HasD.ok {x : Str} {st : Stmt} {N ps : List Str} {k : Nat} {sp : Sp} (h : HasD K mg x st) (S : FnScope N ps (defScope st))
    (hb : ∀ (kV doc pm : Value) (an : Option Addr) (cdv ct : Value) (us : List Value), us.length = ps.length → bindArgs (PySem.W.fnOf x x (defArgs st) (defBody st) (defScope st) .none kV doc pm an cdv ct) ⟨us, []⟩ = pure (ps.zip us))
    (len : ∀ vs H Q E, sp vs H Q E → vs.length = ps.length)
    (hbody : ∀ (f : Addr) (cdv : Value) (A : Around) (outer : List Env) (s : Shared) (H : Hp) (vs : List V) (Q : VK) (E : XK), Room k (A.deeper (envOfC x (defScope st) s.heap.objs.size f cdv)) → sp vs H Q E →
      ∃ t, PSs (cxOf CX0 P w K mg base N x (defScope st) f cdv A outer s H E).nox (defBody st) t ∧ t { nx := fun _ H' => Q .non H', rt := Q } (start N vs) H) : Ok P w K mg base x ps (k + 1) sp := by
  obtain ⟨f, fd, F, g⟩ := h
  exact ⟨f, fd, F.ok S len fun cdv A outer s H vs Q E hr h => let ⟨t, h1, h2⟩ := hbody f cdv A outer s H vs Q E hr h; ⟨t, h1.nox, h2⟩, g, F.kp, F.bindsN hb⟩
/-- a weaker promise, more room -/
theorem Ok.imp {x : Str} {ps : List Str} {k : Nat} {sp sp' : Sp} (h : Ok P w K mg base x ps k sp) (i : ∀ vs H Q E, sp' vs H Q E → sp vs H Q E) : Ok P w K mg base x ps k sp' :=
  let ⟨f, fd, F, g, kp, b⟩ := h; ⟨f, fd, F.imp i, g, kp, b⟩
theorem Ok.up {x : Str} {ps : List Str} {j k : Nat} {sp : Sp} (h : Ok P w K mg base x ps j sp) (i : j ≤ k) : Ok P w K mg base x ps k sp :=
  let ⟨f, fd, F, g, kp, b⟩ := h; ⟨f, fd, F.mono i, g, kp, b⟩
end
section
variable {X : Cx} {x : Str} {ps : List Str} {j k : Nat} {sp : Sp} {p pos : Pos} {e : Expr} {es : List Expr} {t : TA}
/-- its call -/
theorem pc (O : Ok X.prog X.w X.K X.mg X.base x ps k sp) (hr : Room j X.A) (hg : Gl X x) (ha : PA X (e :: es) t) (hk : k ≤ j := by decide) (hdb : (x == ("__debug__" : Str)) = false := by decide)
    (he : starEach (e :: es) X.env = (false, eval e X.env) :: starEach es X.env := by rfl) (hpl : (backTo pos (starEach es X.env)).any (·.1) = false := by rfl) :
    PE X (.Call (.Name x p) (e :: es) [] pos) (tCall sp [] E0 t) := by
  obtain ⟨f, fd, F, g, kp, b⟩ := O
  exact pe_call F (hr.mono hk) hg g kp b .nil pass0 ha hdb he hpl
/-- a number of the module -/
theorem pe_gi {i : Int} (hm : ∃ t, X.mg x = some (.int i t)) (hg : Gl X x) (hd : (x == ("__debug__" : Str)) = false := by decide) : PE X (.Name x pos) (tC (.int i)) := by
  obtain ⟨t, hm⟩ := hm
  exact pe_glob hg hm ⟨t, rfl⟩ hd
end
/-! ### isinstance -/
section
variable {K : PySem.W.Frag} {H : Hp} {Q : VK}
theorem r_intInt {i : Int} (q : Q (.bl true) H) : rIsi K [.int i, .ty "int"] H Q := ⟨_, _, _, _, _, rfl, .ty _, .base (.int i), kit_ty (by decide +kernel), q⟩
theorem r_intBool {i : Int} (q : Q (.bl false) H) : rIsi K [.int i, .ty "bool"] H Q := ⟨_, _, _, _, _, rfl, .ty _, .base (.int i), kit_ty (by decide +kernel), q⟩
theorem Is.tyX {v : V} {ds : List PyData} (h : Is K H v (.tuple ds)) : TyX K H v (.type "tuple") := by
  obtain ⟨a, xs, rfl, ht, _⟩ := h.tup_ex
  rcases ht with (h | ⟨o, h⟩) | ⟨o, its, n, h, c, _⟩
  · exact .base (.tup h)
  · exact .fTuple h
  · exact .kTuple h c
theorem r_tup {v : V} {ds : List PyData} (h : Is K H v (.tuple ds)) (q : Q (.bl true) H) : rIsi K [v, .ty "tuple"] H Q := ⟨_, _, _, _, _, rfl, .ty _, h.tyX, kit_ty (by decide +kernel), q⟩
end
theorem bt_len : bootBuiltins "len" = some (.builtin "len") := by decide +kernel
theorem bt_range : bootBuiltins "range" = some (.type "range") := by decide +kernel
theorem bt_zip : bootBuiltins "zip" = some (.type "zip") := by decide +kernel
theorem bt_enumerate : bootBuiltins "enumerate" = some (.type "enumerate") := by decide +kernel
theorem bt_tuple : bootBuiltins "tuple" = some (.type "tuple") := by decide +kernel
theorem bt_list : bootBuiltins "list" = some (.type "list") := by decide +kernel
theorem bt_int : bootBuiltins "int" = some (.type "int") := by decide +kernel
theorem bt_abs : bootBuiltins "abs" = some (.builtin "abs") := by decide +kernel
theorem bt_all : bootBuiltins "all" = some (.builtin "all") := by decide +kernel
theorem bt_isinstance : bootBuiltins "isinstance" = some (.builtin "isinstance") := by decide +kernel
theorem bt_sorted : bootBuiltins "sorted" = some (.builtin "sorted") := by decide +kernel
theorem bt_min : bootBuiltins "min" = some (.builtin "min") := by decide +kernel
theorem bt_sum : bootBuiltins "sum" = some (.builtin "sum") := by decide +kernel
theorem bt_set : bootBuiltins "set" = some (.type "set") := by decide +kernel
theorem bt_bool : bootBuiltins "bool" = some (.type "bool") := by decide +kernel
end UG
end
section
/-! Unitgrids, rules that the layer lacks: enumerate of a tuple, a tuple times one. -/
namespace UG
open PySem PySem.Spec PyProof.Rows L2
open AutoSeq1 (wpAny_loadPart')
/-- enumerate(t) of a tuple: its two cells -/
theorem enum_new_tup (t : Addr) (xs : Array Value) : Meets (Builtin.«enumerate.__new__» ⟨[.type "enumerate", .ref t], []⟩) (fun _ R s => s.heap.IsTuple t xs ∧
    R (.ok (.ret (.ref (s.heap.push { cls := .type "tuple_iterator", data := .fields #[.ref t, .int 0 0] }).objs.size)))
      { s with heap := (s.heap.push { cls := .type "tuple_iterator", data := .fields #[.ref t, .int 0 0] }).push { cls := .type "enumerate", data := .fields #[.none, .bool false, .ref s.heap.objs.size, rawInt 0, .none, .none] } }) :=
  .of_wp fun prog w A R s h => by
    obtain ⟨hp, g, d, tk, os⟩ := s
    obtain ⟨⟨⟨c, dct, dt, sl⟩, hl, hc, n, hd⟩, h⟩ := h
    replace hc : c = .type "tuple" := hc
    replace hd : dt = .seq xs n := hd
    subst hc hd
    have hsub := sub_enumerate
    have hL : Heap.IsTuple (Shared.heap ⟨hp, g, d, tk, os⟩) t xs := ⟨_, hl, rfl, n, rfl⟩
    wp_walk using wpAny_loadPart' hl
    refine wpAny_stack_any fun st => wpAny_pure ?_
    split
    · rename_i c _ _ _ _ _
      cases (c == Value.type "enumerate")
      · wp_walk using wpAny_loadPart' hl, wpAny_pyIter_tuple hL
        exact ⟨_, rfl, h⟩
      · wp_walk using wpAny_loadPart' hl, wpAny_pyIter_tuple hL
        exact ⟨_, rfl, h⟩
    · wp_walk using wpAny_loadPart' hl, wpAny_pyIter_tuple hL
      exact ⟨_, rfl, h⟩
theorem enum_tup {prog : Program} {w : World} {A : Around} {E : Value → Shared → Prop} {s : Shared} {t : Addr} {xs : Array Value} {Q : Value → Shared → Prop} (hL : s.heap.IsTuple t xs)
    (h : ∀ h', IsEnum h' (s.heap.objs.size + 1) s.heap.objs.size 0 .none → h'.IsTupleIter s.heap.objs.size t 0 → (∀ b o, s.heap.get? b = some o → h'.get? b = some o) → Q (.ref (s.heap.objs.size + 1)) { s with heap := h' }) :
    wpAny (model prog w) A (call (.type "enumerate") [.ref t]) Q E s := by
  refine callType_new F.called_enumerate (by decide) (F.typeCall_enumerate_1 _) (F.newCall_enumerate_1 _) (fun obj => F.args_object_init_2 obj _) F.entry_enumerate_new (enum_new_tup t xs) ⟨hL, ?_⟩
  have hz : (s.heap.push { cls := .type "tuple_iterator", data := .fields #[.ref t, .int 0 0] }).objs.size = s.heap.objs.size + 1 := Heap.size_push ..
  show _ ∧ _
  rw [hz]
  have he : IsEnum ((s.heap.push { cls := .type "tuple_iterator", data := .fields #[.ref t, .int 0 0] }).push { cls := .type "enumerate", data := .fields #[.none, .bool false, .ref s.heap.objs.size, rawInt 0, .none, .none] }) (s.heap.objs.size + 1) s.heap.objs.size 0 .none := by
    have q := Heap.get?_push_size (s.heap.push { cls := .type "tuple_iterator", data := .fields #[.ref t, .int 0 0] }) (o := { cls := .type "enumerate", data := .fields #[.none, .bool false, .ref s.heap.objs.size, rawInt 0, .none, .none] }) rfl
    rw [hz] at q
    exact q
  exact ⟨⟨_, he, rfl⟩, h _ he ⟨_, Heap.get?_push_of_some _ (Heap.get?_push_size _ rfl), rfl, rfl⟩ fun b o x => Heap.get?_push_of_some _ (Heap.get?_push_of_some _ x)⟩
/-- the tuple at a, each item in a new pair with its place -/
def IeT (K : PySem.W.Frag) (a : Addr) : It :=
  ⟨fun i H => ∃ (xs : List V) (x : V), SqT K H a xs ∧ xs[i]? = some x, fun i H v H' => ∃ T x, v = .ref T ∧ H T = none ∧ H' = upd H T (.tup [.int (i : Nat), x]) ∧ ∀ xs, SqT K H a xs → xs[i]? = some x, fun i H => ∃ xs : List V, SqT K H a xs ∧ xs.length ≤ i⟩
theorem turn_ieT {P : Program} {w : World} {K : PySem.W.Frag} {elts : List Expr} {kk : Nat} {tpos : Pos} (a e it : Addr) :
    Turn P w K (.Tuple elts kk tpos) (IeT K a) [e, it] e (fun i h => (∃ old, IsEnum h e it ((i : Nat) : Int) old) ∧ h.IsTupleIter it a i ∧ e ≠ it) where
  mem := by simp
  obj := fun i h st b hb => by
    obtain ⟨⟨old, he⟩, ⟨o, ho, hc, hd⟩, _⟩ := st
    have hbb : b = e ∨ b = it := by simpa using hb
    rcases hbb with rfl | rfl
    · exact ⟨_, he, fun v q => nomatch q⟩
    · exact ⟨o, ho, fun v q => by rw [hd] at q; cases q⟩
  keep := fun i h h' st k => let ⟨⟨old, he⟩, hi, hne⟩ := st; ⟨⟨old, k e (by simp) _ he⟩, hi.at fun o q => k it (by simp) o q, hne⟩
  item := by
    intro X hP hw hK hc i pins s σ H E I hf st hg
    subst hP hw hK
    obtain ⟨⟨old, he⟩, hit, hne⟩ := st
    obtain ⟨xs, x, hq, hx⟩ := hg
    obtain ⟨its, rv, tp, hz⟩ := I.tuple hq
    obtain ⟨u, hu, ru⟩ := rv.get hx
    have hel : e < s.heap.objs.size := Heap.lt_size he
    have hil : it < s.heap.objs.size := by obtain ⟨_, q, _⟩ := hit; exact Heap.lt_size q
    have hilt : i < its.toArray.size := by
      rw [List.size_toArray]
      exact (List.getElem?_eq_some_iff.mp hu).1
    have hh : X.A.in1.handled = none := by simp [I.ok.hd hc]
    have hai : a ≠ it := fun z => by
      obtain ⟨o1, q1, c1, d1⟩ := hit
      obtain ⟨o2, q2, c2, n2, d2⟩ := tp
      rw [z, q1] at q2
      cases q2
      rw [c1] at c2
      exact absurd c2 (by decide)
    have hae : e ≠ a := fun z => by
      obtain ⟨o2, q2, c2, n2, d2⟩ := tp
      have q1 : s.heap.get? e = some _ := he
      rw [z, q2] at q1
      cases q1
      exact absurd (show Value.type "enumerate" = Value.type "tuple" from c2) (by decide)
    have D := Draws.tuple (prog := X.prog) (w := X.w) hh it a hai its.toArray
    have hT : s.heap.IsTuple a its.toArray := tp
    refine wpAny_pyNext_enum_itemD D he ⟨hit, hT⟩ hilt hne (by simp [hne, hae]) fun y h' tk hy ho hst' hT' hsz hk => ?_
    have hyu : y = u := by
      have q : its.toArray[i]? = some u := by simpa using hu
      rw [q] at hy
      exact (Option.some.inj hy).symm
    subst hyu
    refine ⟨_, rfl, wpAny_letOwnedTupleGo_enum (s := { s with heap := h', toks := tk + 1 }) ho fun h'' he' sb => ?_⟩
    have hT2 : h''.get? s.heap.objs.size = some { cls := .type "tuple", data := .seq #[.int i tk, y] } := (sb.2 _ (Nat.ne_of_gt hel)).trans hT'
    have new : ObjOk X.prog X.w (upd H s.heap.objs.size (.tup [.int (i : Nat), x])) h'' s.heap.objs.size (.tup [.int (i : Nat), x]) :=
      ⟨by show 2 ≤ sizeLine; decide, [.int i tk, y], .cons ⟨_, rfl⟩ (.cons ru .nil), ⟨_, hT2, rfl, _, rfl⟩⟩
    have I1 : Inv X pins σ (upd H s.heap.objs.size (.tup [.int (i : Nat), x])) { s with heap := h'', toks := tk + 1 } :=
      I.turnedNew (ch := [e, it]) (fun b ob hb q => (sb.2 b (fun z => hb (by simp [z]))).trans (hk b ob (fun z => hb (by simp [z])) (fun z => hb (by simp [z])) q)) hf (Nat.le_refl _) new
    refine ⟨.ref s.heap.objs.size, _, I1, rfl, ⟨_, x, rfl, I.hok.fresh (Nat.le_refl _), rfl, fun ys hy => by rw [I.tuple_inj hy hq]; exact hx⟩, ⟨⟨y, ?_⟩, hst'.1.at fun o q => (sb.2 it (Ne.symm hne)).trans q, hne⟩, fun b hb => ?_⟩
    · rw [show ((i + 1 : Nat) : Int) = (i : Int) + 1 by omega]
      exact he'
    · have hlt : b < s.heap.objs.size := by
        have hbb : b = e ∨ b = it := by simpa using hb
        rcases hbb with z | z
        · rw [z]; exact hel
        · rw [z]; exact hil
      rw [upd_ne (Nat.ne_of_lt hlt)]
      exact (hf b hb).1
  done := by
    intro X hP hw hK hc i pins s σ H E I hf st hg
    subst hP hw hK
    obtain ⟨⟨old, he⟩, hit, hne⟩ := st
    obtain ⟨xs, hq, hx⟩ := hg
    obtain ⟨its, rv, tp, hz⟩ := I.tuple hq
    obtain ⟨f0, f1, f2, f3, f4, f5⟩ := hf it (by simp)
    have hl := rv.length
    have hh : X.A.in1.handled = none := by simp [I.ok.hd hc]
    have hT : s.heap.IsTuple a its.toArray := tp
    -- the tuple's end, at whatever place behind it
    have hend : ∀ (Q : Option Value → Shared → Prop), (∀ h', Heap.ExtBut it s.heap h' → Q none { s with heap := h' }) → wpAny (model X.prog X.w) X.A (pyNext (.ref e)) Q E s := fun Q hQ => by
      have hty : s.TypeIs (.ref e) "enumerate" := ⟨_, he, rfl⟩
      unfold pyNext
      refine wpAny_bind (wpAny_attempt (wpAny_callSpecial?_slot (name := Str.ofString "__next__") hty F.slot_enumerate_next (wpAny_call_entry F.slot_enumerate_next hty F.entry_enumerate_next ?_ (F.args_enumerate_next_1 _))))
      show wpAny _ _ (field (.ref e) 2 >>= _) _ _ _
      refine wpAny_bind (wpAny_field he rfl (x := .ref it) rfl ?_)
      refine wpAny_bind (wpAny_nextOf_tuple_end hh hit hT (by simp; omega) fun h' x he' hx' => ?_)
      obtain ⟨o, ho, hcl⟩ := hx'
      refine wpAny_bind (wpAny_isInstance (T := "StopIteration") (b := true) ⟨o, ho, hcl⟩ isSubtype_stop ?_)
      exact wpAny_pure (hQ _ he')
    exact hend _ fun h' eb => ⟨rfl, I.turned (t' := s.toks) (fun b o hb q => eb b o hb q) f0 f1 f3 f4 f5⟩
  self := fun A i s Q E st h => let ⟨⟨_, he⟩, _⟩ := st; wpAny_pyIter_enum he h
def iIeT (K : PySem.W.Frag) (ta : TA) : TI := fun σ H R => ta σ H fun vs H1 => ∃ a xs, vs = [.ref a] ∧ SqT K H1 a xs ∧ R (IeT K a) H1
theorem pi_enumT {X : Cx} {e : Expr} {ta : TA} {p pos tpos : Pos} {elts : List Expr} {kk : Nat} (hg : Gl X "enumerate") (hm : X.mg "enumerate" = none) (ha : PA X [e] ta) (hs : starEach [e] X.env = [(false, eval e X.env)] := by rfl) :
    PI X (.Tuple elts kk tpos) (.Call (.Name "enumerate" p) [e] [] pos) (iIeT X.K ta) := by
  refine ⟨fun pins s σ H R I h => ?_⟩
  refine Call_ (ld_blt I hg hm boot_enumerate (PyProof.Rows.callWith_type1 (thn (ha.run pos pins s σ H _ I h) fun us s1 ⟨vs, H1, I1, r1, q1⟩ => ?_) hs rfl))
  obtain ⟨a, xs, rfl, hq, q⟩ := q1
  rw [Vals.ref1 r1]
  obtain ⟨its, rv, tp, hz⟩ := I1.tuple hq
  refine enum_tup tp fun h' he hit hk => wpAny_pyIter_enum he ?_
  have I2 : Inv X pins σ H1 { s1 with heap := h' } := I1.kept (t' := s1.toks) hk
  refine ⟨s1.heap.objs.size + 1, [s1.heap.objs.size + 1, s1.heap.objs.size], _, _, H1, rfl, I2, turn_ieT a (s1.heap.objs.size + 1) s1.heap.objs.size, ⟨⟨.none, he⟩, hit, Nat.succ_ne_self _⟩, fun b hb => ?_, q⟩
  have hle : s1.heap.objs.size ≤ b := by
    have hbb : b = s1.heap.objs.size + 1 ∨ b = s1.heap.objs.size := by simpa using hb
    rcases hbb with z | z
    · rw [z]; exact Nat.le_add_right _ _
    · rw [z]; exact Nat.le_refl _
  exact I1.fpOk hle (I1.hok.fresh hle)
end UG
end
section
/-! Unitgrids, rules that the layer lacks: a tuple times one, a tuple turned round. -/
namespace UG
open PySem PySem.Spec PyProof.Rows L2
open AutoSeq1 (wpAny_loadPart')
theorem tuple_mul1 (l : Addr) (items : Array Value) (n : Nat) (dd : Option Addr) (sl : Array (Option Value)) (u : Tok) :
    Meets (Builtin.«tuple.__mul__» ⟨[.ref l, .int 1 u], []⟩) (fun _ R s => s.heap.get? l = some { cls := .type "tuple", dict := dd, data := .seq items n, slots := sl } ∧ R (.ok (.ret (Value.ref l))) s) :=
  .of_wp fun prog w A R s h => by
    obtain ⟨hp, g, d, tk, os⟩ := s
    obtain ⟨hl, h⟩ := h
    have f1 := AutoSeq1.idx_int
    have c0 : (decide ((1 : Int) < -(2 ^ 63)) || decide ((1 : Int) ≥ 2 ^ 63)) = false := by decide
    have c1 : (items.isEmpty || (1 : Int) == 1) = true := by simp
    wp_walk using wpAny_loadPart' hl
    repeat (first
      | (refine wpAny_ite_false (decide_eq_false (by rw [c0]; exact Bool.false_ne_true)) ?_; wp_walk using wpAny_loadPart' hl)
      | (refine wpAny_ite_true (decide_eq_true (by rw [c1])) ?_; wp_walk using wpAny_loadPart' hl))
    try exact ⟨_, rfl, h⟩
/-- t * k of a tuple, k from 1 on -/
def rRepA (K : PySem.W.Frag) : R2 := fun x y H Q => ∃ l k xs, x = .ref l ∧ y = .int k ∧ SqT K H l xs ∧ xs ≠ [] ∧ 1 ≤ k ∧ k ≤ 1000 ∧ xs.length ≤ 1000 ∧ (k = 1 → Q (.ref l) H) ∧ (k ≠ 1 → ∀ p, H p = none → Q (.ref p) (upd H p (.tup (List.replicate k.toNat xs).flatten)))
theorem op_repA {X : Cx} : OpR X (binaryOp .Mult) (rRepA X.K) := by
  intro pins s σ H x y v u Q I rx ry h
  obtain ⟨l, k, xs, rfl, rfl, hT, hne, h1, h2, hz, q1, q2⟩ := h
  by_cases hk : k = 1
  · subst hk
    cases rx
    obtain ⟨t, rfl⟩ := ry
    obtain ⟨its, r, ⟨⟨cls, dd, data, sl⟩, ho, hc, n, hd⟩, hs⟩ := I.tuple hT
    simp only at hc hd
    subst hc hd
    refine wpAny_binaryOp_repeat_ref (T := "tuple") (U := "int") (by decide) ⟨_, ho, rfl⟩ (fun s' => typeIs_int s' 1 t) noFill_tuple_mul F.fills_int_mul F.slot_int_rmul repeat_tuple F.slot_int_index.lookup
      (call_meets F.slot_int_rmul (typeIs_int s 1 t) F.entry_int_rmul (F.args_int_rmul_2 _ _) (int_rmul_tuple 1 t l its.toArray n dd sl)
        ⟨ho, rfl, ⟨_, ho, rfl⟩, call_meets F.slot_tuple_mul ⟨_, ho, rfl⟩ F.entry_tuple_mul (F.args_tuple_mul_2 _ _) (tuple_mul1 l its.toArray n dd sl t) ⟨ho, ?_⟩⟩)
    exact ⟨.ref l, H, I, rfl, q1 rfl⟩
  · exact op_repT pins s σ H _ _ v u Q I rx ry ⟨l, k, xs, rfl, rfl, hT, hne, by omega, h2, hz, q2 hk⟩
/-! ### t[::-1] -/
section
variable {prog : Program} {w : World} {A : Around} {E : Value → Shared → Prop} {s : Shared}
theorem rev_applied {sl : Addr} {vk : Value} {n : Nat} {Q : Int × Int × Nat → Shared → Prop} (hs : s.heap.IsSliceOf sl .none .none vk) (pk : IsPart vk (some (-1))) (h : Q ((n : Int) - 1, -1, n) s) :
    wpAny (model prog w) A (Builtin.Slice.sliceApplied (.ref sl) (pure (n : Int))) Q E s := by
  obtain ⟨os, hos, hcs, hds⟩ := id hs
  unfold Builtin.Slice.sliceApplied Builtin.Slice.sliceFields
  refine wpAny_bind (wpAny_bind (wpAny_field hos hds (x := .none) rfl (wpAny_bind (wpAny_field hos hds (x := .none) rfl (wpAny_bind (wpAny_field hos hds (x := vk) rfl (wpAny_pure ?_)))))))
  refine wpAny_bind (HT.slicePart_ pk ?_)
  show wpAny _ _ (if ((-1 : Int) == 0) = true then _ else _) _ _ s
  rw [if_neg (by decide)]
  refine wpAny_bind (HT.slicePart_ .none (wpAny_bind (HT.slicePart_ .none (wpAny_bind (wpAny_pure ?_)))))
  show wpAny _ _ (pure ((Builtin.Slice.sliceAdjust none none (-1) (n : Int)).1, (-1 : Int), Builtin.Slice.slicePlaces (Builtin.Slice.sliceAdjust none none (-1) (n : Int)).1 (Builtin.Slice.sliceAdjust none none (-1) (n : Int)).2 (-1))) _ _ s
  have e1 : Builtin.Slice.sliceAdjust none none (-1) (n : Int) = ((n : Int) - 1, -1) := by simp [Builtin.Slice.sliceAdjust]
  have e2 : Builtin.Slice.slicePlaces ((n : Int) - 1) (-1) (-1) = n := by
    unfold Builtin.Slice.slicePlaces
    rw [if_neg (by decide)]
    by_cases hn : (n : Int) - 1 > -1
    · rw [if_pos hn]
      have : ((n : Int) - 1 - -1 - 1) / (- -1) + 1 = n := by
        rw [show (- -1 : Int) = 1 by decide, Int.ediv_one]
        omega
      rw [this]
      simp
    · rw [if_neg hn]
      omega
  rw [e1]
  show wpAny _ _ (pure ((n : Int) - 1, (-1 : Int), Builtin.Slice.slicePlaces ((n : Int) - 1) (-1) (-1))) _ _ s
  rw [e2]
  exact wpAny_pure h
theorem rev_pick (xs : Array Value) : ((List.range xs.size).filterMap fun (k : Nat) => xs[((xs.size : Int) - 1 + (k : Int) * (-1)).toNat]?).toArray = xs.toList.reverse.toArray := by
  have h := PySem.W.krv_pick xs
  unfold slicePick at h
  rw [PySem.W.krv_bounds] at h
  have e : (fun (k : Nat) => xs[((xs.size : Int) - 1 + (k : Int) * (-1)).toNat]?) = fun k => xs[xs.size - 1 - k]? := by
    funext k
    have : ((xs.size : Int) - 1 + (k : Int) * (-1)).toNat = xs.size - 1 - k := by omega
    rw [this]
  rw [e, ← h]
  show _ = ((sliceRange ((xs.size : Int) - 1) (-1) (-1)).filterMap (xs[·]?)).toArray
  rw [PySem.W.krv_sliceRange, List.filterMap_map]
  rfl
theorem tuple_rev {t sl : Addr} {items : Array Value} {vk : Value} {Q : Value → Shared → Prop} (ht : IsTup s.heap t items) (hs : s.heap.IsSliceOf sl .none .none vk) (pk : IsPart vk (some (-1))) (hne : items.size ≠ 0)
    (h : Q (.ref s.heap.objs.size) { s with heap := s.heap.push { cls := .type "tuple", data := .seq items.toList.reverse.toArray } }) (hsz : items.size ≤ sizeLine) : wpAny (model prog w) A (getItem (.ref t) (.ref sl)) Q E s := by
  obtain ⟨os, hos, hcs, hds⟩ := id hs
  have hTs : s.TypeIs (.ref sl) "slice" := ⟨os, hos, hcs⟩
  unfold getItem
  try with_reducible refine wpAny_holding ?_
  first | refine wpAny_bind (wpAny_pure ?_) | skip
  refine wpAny_bind (wpAny_sequenceKey ht.typeIs (by decide) ?_)
  refine wpAny_bind (wpAny_callSpecial?_slot (name := Str.ofString "__getitem__") ht.typeIs PyProof.Rows.slot_tuple_getitem
    (wpAny_call_entry PyProof.Rows.slot_tuple_getitem ht.typeIs entry_tuple_getitem ?_ (args_tuple_getitem _ _)))
  show wpAny _ _ (Builtin.Tuple.tupleItemsOf (.ref t) >>= _) _ _ s
  refine wpAny_bind (tupleItemsOf_ ht ?_)
  refine wpAny_bind (wpAny_typeOf hTs ?_)
  rw [if_pos (by decide)]
  refine wpAny_bind (rev_applied hs pk ?_)
  show wpAny _ _ (if ((((items.size : Int) - 1) == 0 && (-1 : Int) == 1 && items.size == items.size) = true) then _ else _) _ _ s
  rw [if_neg (by simp), rev_pick]
  have hok : sizeOk (.seq items.toList.reverse.toArray) := by
    show items.toList.reverse.toArray.size ≤ sizeLine
    simpa using hsz
  first
    | exact wpAny_bind (m := Builtin.Tuple.tupleExact _) (wpAny_newObj_type (wpAny_pure ⟨_, rfl, wpAny_pure h⟩) hok)
    | exact wpAny_bind (m := Builtin.Tuple.tupleExact _) (wpAny_newObj_type (wpAny_bind (wpAny_pure (wpAny_pure ⟨_, rfl, wpAny_pure h⟩))) hok)
    | exact wpAny_bind (wpAny_bind (m := Builtin.Tuple.tupleExact _) (wpAny_newObj_type (wpAny_pure (wpAny_pure ⟨_, rfl, wpAny_pure h⟩)) hok))
    | exact wpAny_bind (wpAny_bind (m := Builtin.Tuple.tupleExact _) (wpAny_newObj_type (wpAny_pure ⟨_, rfl, wpAny_pure h⟩) hok))
end
def tRevT (K : PySem.W.Frag) (te : TE) : TE := fun σ H Q => te σ H fun x H1 => ∃ a xs, x = .ref a ∧ SqT K H1 a xs ∧ xs ≠ [] ∧ ∀ p, H1 p = none → Q (.ref p) (upd H1 p (.tup xs.reverse))
theorem pe_revT {X : Cx} {e : Expr} {te : TE} {k : Nat} {p1 p2 p3 pos : Pos} (he : PE X e te) : PE X (.Subscript e (.Slice none none (some (.UnaryOp .USub (.Constant (.int 1) k p1) p2)) p3) pos) (tRevT X.K te) := by
  refine ⟨fun pins s σ H Q I h => ?_⟩
  refine Subscript_ (thn (he.run pins s σ H _ I h) fun v s1 ⟨x, H1, I1, r1, q1⟩ => ?_)
  obtain ⟨a, xs, rfl, hx, hne, q⟩ := q1
  cases r1
  have hst : PO X (some (.UnaryOp .USub (.Constant (.int 1) k p1) p2)) (tPart (tUn (rU fun i => .int (-i)) (tC (.int 1)))) := po_some (pe_un un_neg pe_int)
  refine wpAny_Slice ?_
  rw [evalPart_none]
  refine wpAny_pure (wpAny_pure ?_)
  refine thn (hst.run pins s1 σ H1 (fun o H4 => o = some (-1) ∧ H4 = H1) I1 ⟨1, rfl, -1, rfl, rfl, rfl⟩) fun vk s4 ⟨o, H4, I4, ps, eo, e4⟩ => ?_
  subst eo e4
  have I5 : Inv X pins σ H4 { s4 with heap := s4.heap.push { cls := .type "slice", data := .fields #[.none, .none, vk] } } := I4.kept (t' := s4.toks) fun b ob q => Heap.get?_push_of_some _ q
  obtain ⟨its, r, ht, hz⟩ := I5.tuple hx
  have hlen := r.length
  have hn0 : its.toArray.size ≠ 0 := by
    rw [List.size_toArray, ← hlen]
    cases xs with
    | nil => exact absurd rfl hne
    | cons y ys => simp
  show wpAny (model X.prog X.w) X.A (subscriptTail e (.Slice none none (some (.UnaryOp .USub (.Constant (.int 1) k p1) p2)) p3) (.ref a) (.ref s4.heap.objs.size)) (EP X pins σ Q) X.xe { s4 with heap := s4.heap.push { cls := .type "slice", data := .fields #[.none, .none, vk] } }
  refine tail_any (ops := [.ref a, .ref s4.heap.objs.size]) ht.typeIs PyProof.Rows.slot_tuple_getitem.lookup ?_ (by with_unfolding_all rfl)
  refine tuple_rev ht (Heap.IsSliceOf.new _ .none .none vk) ps hn0 ?_ (by rw [List.size_toArray]; omega)
  refine ⟨.ref _, _, I5.laid (t' := s4.toks) (o := .tup xs.reverse) (fun b ob q => Heap.get?_push_of_some _ q) (Nat.le_refl _) ?_, rfl, q _ (I5.hok.fresh (Nat.le_refl _))⟩
  exact ⟨by rw [List.length_reverse]; exact hz, _, r.reverse, IsTup.new _ _⟩
end UG
end
section
/-! Unitgrids, checks.py: whole numbers, fractions. -/
namespace UG
open PySem PySem.Spec PyProof.Rows L2 RZ
theorem ifT {b : Bool} {A B : Prop} (h : b = true) (a : A) : if b = true then A else B := by rw [if_pos h]; exact a
theorem ifF {b : Bool} {A B : Prop} (h : b = false) (a : B) : if b = true then A else B := by rw [if_neg (by rw [h]; decide)]; exact a
section
variable {P : Program} {w : World} {K : PySem.W.Frag} {mg : Str → Option Value} {base : Heap}
def sp_is_integer (K : PySem.W.Frag) : Sp := fun vs H Q _ => ∃ x, vs = [x] ∧ ∃ i, x = .int i ∧ Q (.bl true) H
abbrev n_is_integer : List Str := ["thing"]
theorem sc_is_integer : FnScope n_is_integer ["thing"] (defScope s_is_integer) := ⟨rfl, rfl, rfl, by decide +kernel, rfl, by decide +kernel, by decide +kernel⟩
theorem ok_is_integer (T : Txt K mg) : Ok P w K mg base "is_integer" ["thing"] 1 (sp_is_integer K) := by
  refine T.x_is_integer.ok sc_is_integer (fun _ _ _ _ _ _ us hl => match us, hl with | [_], _ => rfl) (fun vs H Q E h => by obtain ⟨_, rfl, _⟩ := h; rfl) (fun f cdv A outer s H vs Q E hr h => ?_)
  obtain ⟨_, rfl, i, rfl, q⟩ := h
  refine ⟨_, (pss_one (ps_ret (pe_and (pe_callB call_isi (by rfl) T.b_isinstance bt_isinstance (pa_cons (pv 0) (pa_cons (pe_bltn (v := .ty "int") rfl T.b_int bt_int rfl) pa_nil))) (pe_one (pe_not (pe_callB call_isi (by rfl) T.b_isinstance bt_isinstance (pa_cons (pv 0) (pa_cons (pe_bltn (v := .ty "bool") rfl T.b_bool bt_bool rfl) pa_nil)))))))), ?_⟩
  dsimp only [tVar, tC, tAdd, tSub, tMul, t2I, tCmp, tIsN, tNotN, tB, tAnd, tOr, tNot, tAndV, tOrV, tNotV, tIf, tSeq, tNext, tDrop, tRet, tRetN, tIfS, tAsg, tAug, tPar, gName, gNil, gCons, gSub, tOp, tUn, tTest, tChain, tCons, tNil, tTup, tLst, tCall, tCB, tNoPart, tPart, tSl, tBM, tBM0, rI0, rI, tYes, Cx.nox, Cx.blk, cxOf, List.nil_append, List.cons_append]
  exact ⟨_, rfl, r_intInt ⟨_, rfl, ifT rfl ⟨_, rfl, r_intBool ⟨_, rfl, q⟩⟩⟩⟩
def sp_is_within (K : PySem.W.Frag) : Sp := fun vs H Q _ => ∃ x a b, vs = [x, a, b] ∧ ∃ i l m, x = .int i ∧ a = .int l ∧ b = .int m ∧ Q (.bl (decide (l ≤ i ∧ i ≤ m))) H
abbrev n_is_within : List Str := ["thing", "least", "most"]
theorem sc_is_within : FnScope n_is_within ["thing", "least", "most"] (defScope s_is_within) := ⟨rfl, rfl, rfl, by decide +kernel, rfl, by decide +kernel, by decide +kernel⟩
theorem ok_is_within (T : Txt K mg) : Ok P w K mg base "is_within" ["thing", "least", "most"] 2 (sp_is_within K) := by
  refine T.x_is_within.ok sc_is_within (fun _ _ _ _ _ _ us hl => match us, hl with | [_, _, _], _ => rfl) (fun vs H Q E h => by obtain ⟨_, _, _, rfl, _⟩ := h; rfl) (fun f cdv A outer s H vs Q E hr h => ?_)
  obtain ⟨_, _, _, rfl, i, l, m, rfl, rfl, rfl, q⟩ := h
  refine ⟨_, (pss_one (ps_ret (pe_and (pc (ok_is_integer T) hr rfl (pa_cons (pv 0) pa_nil)) (pe_one (pe_chain op_le op_le (pv 1) (pv 0) (pv 2)))))), ?_⟩
  dsimp only [tVar, tC, tAdd, tSub, tMul, t2I, tCmp, tIsN, tNotN, tB, tAnd, tOr, tNot, tAndV, tOrV, tNotV, tIf, tSeq, tNext, tDrop, tRet, tRetN, tIfS, tAsg, tAug, tPar, gName, gNil, gCons, gSub, tOp, tUn, tTest, tChain, tCons, tNil, tTup, tLst, tCall, tCB, tNoPart, tPart, tSl, tBM, tBM0, rI0, rI, tYes, Cx.nox, Cx.blk, cxOf, List.nil_append, List.cons_append]
  refine ⟨_, rfl, _, rfl, i, rfl, _, rfl, ifT rfl ⟨_, rfl, _, rfl, _, _, rfl, rfl, _, rfl, ?_⟩⟩
  by_cases h1 : l ≤ i
  · refine ifT (decide_eq_true h1) ⟨_, rfl, _, _, rfl, rfl, ?_⟩
    have e : decide (i ≤ m) = decide (l ≤ i ∧ i ≤ m) := decide_eq_decide.mpr ⟨fun z => ⟨h1, z⟩, fun z => z.2⟩
    show Q (.bl (decide (i ≤ m))) H
    rw [e]
    exact q
  · refine ifF (decide_eq_false h1) ?_
    rw [decide_eq_false (fun z => h1 z.1)] at q
    exact q
def sp_check_number (K : PySem.W.Frag) : Sp := fun vs H Q _ => ∃ x a b, vs = [x, a, b] ∧ ∃ i l m, x = .int i ∧ a = .int l ∧ b = .int m ∧ l ≤ i ∧ i ≤ m ∧ Q .non H
abbrev n_check_number : List Str := ["thing", "least", "most"]
theorem sc_check_number : FnScope n_check_number ["thing", "least", "most"] (defScope s_check_number) := ⟨rfl, rfl, rfl, by decide +kernel, rfl, by decide +kernel, by decide +kernel⟩
theorem ok_check_number (T : Txt K mg) : Ok P w K mg base "check_number" ["thing", "least", "most"] 3 (sp_check_number K) := by
  refine T.x_check_number.ok sc_check_number (fun _ _ _ _ _ _ us hl => match us, hl with | [_, _, _], _ => rfl) (fun vs H Q E h => by obtain ⟨_, _, _, rfl, _⟩ := h; rfl) (fun f cdv A outer s H vs Q E hr h => ?_)
  obtain ⟨_, _, _, rfl, i, l, m, rfl, rfl, rfl, h1, h2, q⟩ := h
  refine ⟨_, (pss_one (ps_if (pt_not (pt_val (pc (ok_is_within T) hr rfl (pa_cons (pv 0) (pa_cons (pv 1) (pa_cons (pv 2) pa_nil))))))
      (pss_one ps_never)
      pss_nil)), ?_⟩
  dsimp only [tVar, tC, tAdd, tSub, tMul, t2I, tCmp, tIsN, tNotN, tB, tAnd, tOr, tNot, tAndV, tOrV, tNotV, tIf, tSeq, tNext, tDrop, tRet, tRetN, tIfS, tAsg, tAug, tPar, gName, gNil, gCons, gSub, tOp, tUn, tTest, tChain, tCons, tNil, tTup, tLst, tCall, tCB, tNoPart, tPart, tSl, tBM, tBM0, rI0, rI, tYes, Cx.nox, Cx.blk, cxOf, List.nil_append, List.cons_append]
  refine ⟨_, rfl, _, rfl, _, rfl, _, _, _, rfl, i, l, m, rfl, rfl, rfl, _, rfl, ?_⟩
  refine ifF (by simp [h1, h2]) q
/-- gcd -/
def sp_divisor (K : PySem.W.Frag) : Sp := fun vs H Q _ => ∃ x y, vs = [x, y] ∧ ∃ a b : Int, x = .int a ∧ y = .int b ∧ Q (.int (Int.gcd a b : Nat)) H
theorem abs_nat (a : Int) : (if a < 0 then -a else a) = (a.natAbs : Nat) := by split <;> omega
abbrev n_divisor : List Str := ["one", "other"]
theorem sc_divisor : FnScope n_divisor ["one", "other"] (defScope s_divisor) := ⟨rfl, rfl, rfl, by decide +kernel, rfl, by decide +kernel, by decide +kernel⟩
theorem ok_divisor (T : Txt K mg) : Ok P w K mg base "divisor" ["one", "other"] 1 (sp_divisor K) := by
  refine T.x_divisor.ok sc_divisor (fun _ _ _ _ _ _ us hl => match us, hl with | [_, _], _ => rfl) (fun vs H Q E h => by obtain ⟨_, _, rfl, _⟩ := h; rfl) (fun f cdv A outer s H vs Q E hr h => ?_)
  obtain ⟨_, _, rfl, a, b, rfl, rfl, q⟩ := h
  refine ⟨_, (pss_cons (ps_par (i := 0) (j := 1) rfl sc_divisor.nd rfl rfl (by decide) rfl rfl (pa_cons (pe_callB call_abs (by rfl) T.b_abs bt_abs (pa_cons (pv 0) pa_nil)) (pa_cons (pe_callB call_abs (by rfl) T.b_abs bt_abs (pa_cons (pv 1) pa_nil)) pa_nil)) (by rfl))
    (pss_cons (ps_while PassesOwn.never (pt_cmpR op_gt (pv 1) pe_int (nomark _))
      (pss_one (ps_par (i := 0) (j := 1) rfl sc_divisor.nd rfl rfl (by decide) rfl rfl (pa_cons (pv 1) (pa_cons (pe_op op_mod (pv 0) (pv 1)) pa_nil)) (by rfl))))
    (pss_one (ps_ret (pv 0))))), ?_⟩
  dsimp only [tVar, tC, tAdd, tSub, tMul, t2I, tCmp, tIsN, tNotN, tB, tAnd, tOr, tNot, tAndV, tOrV, tNotV, tIf, tSeq, tNext, tDrop, tRet, tRetN, tIfS, tAsg, tAug, tPar, gName, gNil, gCons, gSub, tOp, tUn, tTest, tChain, tCons, tNil, tTup, tLst, tCall, tCB, tNoPart, tPart, tSl, tBM, tBM0, rI0, rI, tYes, Cx.nox, Cx.blk, cxOf, List.nil_append, List.cons_append]
  refine ⟨_, rfl, a, rfl, _, rfl, b, rfl, _, _, rfl, ?_⟩
  rw [abs_nat, abs_nat]
  refine ⟨fun m σ H' => H = H' ∧ ∃ p : Nat, σ = [some (.int (p : Nat)), some (.int (m : Nat))] ∧ Nat.gcd p m = Int.gcd a b, ⟨b.natAbs, rfl, a.natAbs, rfl, rfl⟩, fun m σ H' hW => ?_⟩
  obtain ⟨rfl, p, rfl, hg⟩ := hW
  refine ⟨_, rfl, _, _, rfl, rfl, _, rfl, ?_⟩
  by_cases hm : (0 : Int) < (m : Nat)
  · refine ifT (decide_eq_true hm) ⟨fun σ H' => H = H' ∧ ∃ p' : Nat, ∃ m' : Nat, m' < m ∧ σ = [some (.int (p' : Nat)), some (.int (m' : Nat))] ∧ Nat.gcd p' m' = Int.gcd a b, fun σ' H'' hN => ?_, ?_⟩
    · obtain ⟨rfl, p', m', h1, rfl, h2⟩ := hN
      exact ⟨m', h1, rfl, p', rfl, h2⟩
    · refine ⟨_, rfl, _, rfl, _, rfl, _, _, rfl, rfl, hm, _, _, rfl, rfl, m, p % m, Nat.mod_lt _ (by omega), ?_, ?_⟩
      · rw [Int.natCast_emod]
        rfl
      · rw [← hg, Nat.gcd_comm p m, Nat.gcd_rec m p, Nat.gcd_comm]
  · have e : m = 0 := by omega
    subst e
    refine ifF (by decide) ⟨_, rfl, ?_⟩
    rw [Nat.gcd_zero_right] at hg
    rw [hg]
    exact q
/-- half-integers in lowest terms -/
theorem low_frp {t b n : Int} (hb : 0 < b) (h : 2 * t = n * b) : t / (Int.gcd t b : Nat) = (frp n).1 ∧ b / (Int.gcd t b : Nat) = (frp n).2 := by
  have hg : 0 < Int.gcd t b := Int.gcd_pos_of_ne_zero_right _ (by omega)
  have ht : ((Int.gcd t b : Nat) : Int) ∣ t := Int.gcd_dvd_left ..
  have hbd : ((Int.gcd t b : Nat) : Int) ∣ b := Int.gcd_dvd_right ..
  generalize hgg : (Int.gcd t b : Nat) = g at *
  obtain ⟨t', ht'⟩ := ht
  obtain ⟨b', hb'⟩ := hbd
  have hg0 : (0 : Int) < (g : Nat) := by omega
  have e1 : t / (g : Nat) = t' := by rw [ht', Int.mul_ediv_cancel_left _ (by omega)]
  have e2 : b / (g : Nat) = b' := by rw [hb', Int.mul_ediv_cancel_left _ (by omega)]
  have hb0 : 0 < b' := by
    rw [hb', ← Int.mul_zero (g : Int)] at hb
    exact Int.lt_of_mul_lt_mul_left hb (Int.le_of_lt hg0)
  have hc : Int.gcd t' b' = 1 := by
    have := Int.gcd_mul_left (g : Int) t' b'
    rw [← ht', ← hb', hgg] at this
    have e : (g : Int).natAbs = g := by simp
    rw [e] at this
    exact Nat.eq_of_mul_eq_mul_left hg (this.symm.trans (Nat.mul_one g).symm)
  have h2 : 2 * t' = n * b' := by
    have : (g : Int) * (2 * t') = (g : Int) * (n * b') := by
      rw [← Int.mul_assoc, Int.mul_comm (g : Int) 2, Int.mul_assoc, ← ht', h, hb']
      rw [← Int.mul_assoc, Int.mul_comm n, Int.mul_assoc]
    exact Int.eq_of_mul_eq_mul_left (by omega) this
  have hd : b' ∣ 2 := by
    have h3 : b' ∣ t' * 2 := ⟨n, by rw [Int.mul_comm t' 2, h2, Int.mul_comm]⟩
    have h4 : b'.natAbs ∣ t'.natAbs * 2 := by
      have := Int.natAbs_dvd_natAbs.mpr h3
      rwa [Int.natAbs_mul] at this
    have h5 : Nat.Coprime b'.natAbs t'.natAbs := by rw [Nat.Coprime, Nat.gcd_comm]; exact hc
    exact Int.natAbs_dvd_natAbs.mp (h5.dvd_of_dvd_mul_left h4)
  have hle : b' ≤ 2 := Int.le_of_dvd (by decide) hd
  rw [e1, e2]
  unfold frp
  have hb12 : b' = 1 ∨ b' = 2 := by omega
  rcases hb12 with e | e
  · subst e
    have : n % 2 = 0 := by omega
    rw [if_pos this]
    exact ⟨by show t' = n / 2; omega, rfl⟩
  · subst e
    have e3 : t' = n := by omega
    have hodd : ¬ n % 2 = 0 := fun z => by
      have hd1 : (2 : Int) ∣ t' := by rw [e3]; exact Int.dvd_of_emod_eq_zero z
      have := Int.dvd_gcd hd1 (Int.dvd_refl 2)
      rw [hc] at this
      exact absurd this (by decide)
    rw [if_neg hodd]
    exact ⟨e3, rfl⟩
def sp_lowest (K : PySem.W.Frag) : Sp := fun vs H Q _ => ∃ x y, vs = [x, y] ∧ ∃ t b n : Int, x = .int t ∧ y = .int b ∧ 0 < b ∧ b < 1000 ∧ 2 * t = n * b ∧ ∀ H' v, Same H H' → Is K H' v (fr n) → Q v H'
theorem gcd_lt {t b : Int} (hb : 0 < b) (h : b < 1000) : (0 : Int) < (Int.gcd t b : Nat) ∧ ((Int.gcd t b : Nat) : Int) < 1073741824 := by
  have hg : 0 < Int.gcd t b := Int.gcd_pos_of_ne_zero_right _ (by omega)
  have := Int.le_of_dvd hb (Int.gcd_dvd_right t b)
  omega
theorem is_pair {H : Hp} {p : Addr} {a b : Int} (n : H p = none) : Is K (upd H p (.tup [.int a, .int b])) (.ref p) (.tuple [.int a, .int b]) := Is.mk n (.cons (.int _) (.cons (.int _) .nil))
theorem two_le : 2 ≤ sizeLine := by decide
abbrev n_lowest : List Str := ["top", "bottom", "common"]
theorem sc_lowest : FnScope n_lowest ["top", "bottom"] (defScope s_lowest) := ⟨rfl, rfl, rfl, by decide +kernel, rfl, by decide +kernel, by decide +kernel⟩
theorem ok_lowest (T : Txt K mg) : Ok P w K mg base "lowest" ["top", "bottom"] 2 (sp_lowest K) := by
  refine T.x_lowest.ok sc_lowest (fun _ _ _ _ _ _ us hl => match us, hl with | [_, _], _ => rfl) (fun vs H Q E h => by obtain ⟨_, _, rfl, _⟩ := h; rfl) (fun f cdv A outer s H vs Q E hr h => ?_)
  obtain ⟨_, _, rfl, t, b, n, rfl, rfl, h0, h1, h2, q⟩ := h
  refine ⟨_, (pss_cons (ps_set (i := 2) sc_lowest.nd rfl (.inl rfl) (pc (ok_divisor T) hr rfl (pa_cons (pv 0) (pa_cons (pv 1) pa_nil))))
    (pss_cons (ps_if (pt_cmpR op_lt (pv 1) pe_int (nomark _))
      (pss_one (ps_set (i := 2) sc_lowest.nd rfl (.inl rfl) (pe_un un_neg (pv 2))))
      pss_nil)
    (pss_one (ps_ret (pe_tup (pa_cons (pe_op op_fdiv (pv 0) (pv 2)) (pa_cons (pe_op op_fdiv (pv 1) (pv 2)) pa_nil))))))), ?_⟩
  dsimp only [tVar, tC, tAdd, tSub, tMul, t2I, tCmp, tIsN, tNotN, tB, tAnd, tOr, tNot, tAndV, tOrV, tNotV, tIf, tSeq, tNext, tDrop, tRet, tRetN, tIfS, tAsg, tAug, tPar, gName, gNil, gCons, gSub, tOp, tUn, tTest, tChain, tCons, tNil, tTup, tLst, tCall, tCB, tNoPart, tPart, tSl, tBM, tBM0, rI0, rI, tYes, Cx.nox, Cx.blk, cxOf, List.nil_append, List.cons_append]
  refine ⟨_, rfl, _, rfl, _, _, rfl, t, b, rfl, rfl, ?_⟩
  refine ⟨_, rfl, _, _, rfl, rfl, _, rfl, ifF (decide_eq_false (by omega)) ?_⟩
  refine ⟨_, rfl, _, rfl, _, _, rfl, rfl, gcd_lt h0 h1, _, rfl, _, rfl, _, _, rfl, rfl, gcd_lt h0 h1, two_le, fun p np => ?_⟩
  refine q _ _ (same_upd np) ?_
  rw [(low_frp h0 h2).1, (low_frp h0 h2).2, fr_eq]
  exact is_pair np
def sp_plus (K : PySem.W.Frag) : Sp := fun vs H Q _ => ∃ x y, vs = [x, y] ∧ ∃ m n : Int, Is K H x (fr m) ∧ Is K H y (fr n) ∧ ∀ H' v, Same H H' → Is K H' v (fr (m + n)) → Q v H'
def sp_minus (K : PySem.W.Frag) : Sp := fun vs H Q _ => ∃ x y, vs = [x, y] ∧ ∃ m n : Int, Is K H x (fr m) ∧ Is K H y (fr n) ∧ ∀ H' v, Same H H' → Is K H' v (fr (m - n)) → Q v H'
/-- a fraction's two numbers -/
theorem Is.fr0 {H : Hp} {x : V} {n : Int} {Q : VK} (h : Is K H x (fr n)) (q : Q (.int (frp n).1) H) : rIxT K x (.int 0) H Q := by
  rw [fr_eq] at h
  exact r_ixT (j := 0) h rfl rfl rfl fun v hv => by rw [hv.int_eq]; exact q
theorem Is.fr1 {H : Hp} {x : V} {n : Int} {Q : VK} (h : Is K H x (fr n)) (q : Q (.int (frp n).2) H) : rIxT K x (.int 1) H Q := by
  rw [fr_eq] at h
  exact r_ixT (j := 1) h rfl rfl rfl fun v hv => by rw [hv.int_eq]; exact q
theorem small_mul {i : Int} (n : Int) : L2.CMul i (frp n).2 := by
  refine .inr ?_
  rcases frp_below n with e | e <;> rw [e] <;> decide
theorem below_mul (m n : Int) : 0 < (frp m).2 * (frp n).2 ∧ (frp m).2 * (frp n).2 < 1000 := by
  rcases frp_below m with e | e <;> rcases frp_below n with e' | e' <;> rw [e, e'] <;> decide
theorem plus_law (m n : Int) : 2 * ((frp m).1 * (frp n).2 + (frp n).1 * (frp m).2) = (m + n) * ((frp m).2 * (frp n).2) := by
  have h1 := frp_twice m
  have h2 := frp_twice n
  rcases frp_below m with e | e <;> rcases frp_below n with e' | e' <;> rw [e] at h1 ⊢ <;> rw [e'] at h2 ⊢ <;> omega
theorem minus_law (m n : Int) : 2 * ((frp m).1 * (frp n).2 - (frp n).1 * (frp m).2) = (m - n) * ((frp m).2 * (frp n).2) := by
  have h1 := frp_twice m
  have h2 := frp_twice n
  rcases frp_below m with e | e <;> rcases frp_below n with e' | e' <;> rw [e] at h1 ⊢ <;> rw [e'] at h2 ⊢ <;> omega
abbrev n_plus : List Str := ["one", "other"]
theorem sc_plus : FnScope n_plus ["one", "other"] (defScope s_plus) := ⟨rfl, rfl, rfl, by decide +kernel, rfl, by decide +kernel, by decide +kernel⟩
theorem ok_plus (T : Txt K mg) : Ok P w K mg base "plus" ["one", "other"] 3 (sp_plus K) := by
  refine T.x_plus.ok sc_plus (fun _ _ _ _ _ _ us hl => match us, hl with | [_, _], _ => rfl) (fun vs H Q E h => by obtain ⟨_, _, rfl, _⟩ := h; rfl) (fun f cdv A outer s H vs Q E hr h => ?_)
  obtain ⟨_, _, rfl, m, n, hx, hy, q⟩ := h
  refine ⟨_, (pss_one (ps_ret (pc (ok_lowest T) hr rfl (pa_cons (pe_op op_add (pe_op op_mul (pe_ix ix_tup (pv 0) pe_int (fun _ _ => rfl)) (pe_ix ix_tup (pv 1) pe_int (fun _ _ => rfl))) (pe_op op_mul (pe_ix ix_tup (pv 1) pe_int (fun _ _ => rfl)) (pe_ix ix_tup (pv 0) pe_int (fun _ _ => rfl)))) (pa_cons (pe_op op_mul (pe_ix ix_tup (pv 0) pe_int (fun _ _ => rfl)) (pe_ix ix_tup (pv 1) pe_int (fun _ _ => rfl))) pa_nil))))), ?_⟩
  dsimp only [tVar, tC, tAdd, tSub, tMul, t2I, tCmp, tIsN, tNotN, tB, tAnd, tOr, tNot, tAndV, tOrV, tNotV, tIf, tSeq, tNext, tDrop, tRet, tRetN, tIfS, tAsg, tAug, tPar, gName, gNil, gCons, gSub, tOp, tUn, tTest, tChain, tCons, tNil, tTup, tLst, tCall, tCB, tNoPart, tPart, tSl, tBM, tBM0, rI0, rI, tYes, Cx.nox, Cx.blk, cxOf, List.nil_append, List.cons_append]
  refine ⟨_, rfl, hx.fr0 ⟨_, rfl, hy.fr1 ⟨_, _, rfl, rfl, small_mul n, ?_⟩⟩⟩
  refine ⟨_, rfl, hy.fr0 ⟨_, rfl, hx.fr1 ⟨_, _, rfl, rfl, small_mul m, _, _, rfl, rfl, ?_⟩⟩⟩
  refine ⟨_, rfl, hx.fr1 ⟨_, rfl, hy.fr1 ⟨_, _, rfl, rfl, small_mul n, ?_⟩⟩⟩
  exact ⟨_, _, rfl, _, _, m + n, rfl, rfl, (below_mul m n).1, (below_mul m n).2, plus_law m n, q⟩
abbrev n_minus : List Str := ["one", "other"]
theorem sc_minus : FnScope n_minus ["one", "other"] (defScope s_minus) := ⟨rfl, rfl, rfl, by decide +kernel, rfl, by decide +kernel, by decide +kernel⟩
theorem ok_minus (T : Txt K mg) : Ok P w K mg base "minus" ["one", "other"] 3 (sp_minus K) := by
  refine T.x_minus.ok sc_minus (fun _ _ _ _ _ _ us hl => match us, hl with | [_, _], _ => rfl) (fun vs H Q E h => by obtain ⟨_, _, rfl, _⟩ := h; rfl) (fun f cdv A outer s H vs Q E hr h => ?_)
  obtain ⟨_, _, rfl, m, n, hx, hy, q⟩ := h
  refine ⟨_, (pss_one (ps_ret (pc (ok_lowest T) hr rfl (pa_cons (pe_op op_sub (pe_op op_mul (pe_ix ix_tup (pv 0) pe_int (fun _ _ => rfl)) (pe_ix ix_tup (pv 1) pe_int (fun _ _ => rfl))) (pe_op op_mul (pe_ix ix_tup (pv 1) pe_int (fun _ _ => rfl)) (pe_ix ix_tup (pv 0) pe_int (fun _ _ => rfl)))) (pa_cons (pe_op op_mul (pe_ix ix_tup (pv 0) pe_int (fun _ _ => rfl)) (pe_ix ix_tup (pv 1) pe_int (fun _ _ => rfl))) pa_nil))))), ?_⟩
  dsimp only [tVar, tC, tAdd, tSub, tMul, t2I, tCmp, tIsN, tNotN, tB, tAnd, tOr, tNot, tAndV, tOrV, tNotV, tIf, tSeq, tNext, tDrop, tRet, tRetN, tIfS, tAsg, tAug, tPar, gName, gNil, gCons, gSub, tOp, tUn, tTest, tChain, tCons, tNil, tTup, tLst, tCall, tCB, tNoPart, tPart, tSl, tBM, tBM0, rI0, rI, tYes, Cx.nox, Cx.blk, cxOf, List.nil_append, List.cons_append]
  refine ⟨_, rfl, hx.fr0 ⟨_, rfl, hy.fr1 ⟨_, _, rfl, rfl, small_mul n, ?_⟩⟩⟩
  refine ⟨_, rfl, hy.fr0 ⟨_, rfl, hx.fr1 ⟨_, _, rfl, rfl, small_mul m, _, _, rfl, rfl, ?_⟩⟩⟩
  refine ⟨_, rfl, hx.fr1 ⟨_, rfl, hy.fr1 ⟨_, _, rfl, rfl, small_mul n, ?_⟩⟩⟩
  exact ⟨_, _, rfl, _, _, m - n, rfl, rfl, (below_mul m n).1, (below_mul m n).2, minus_law m n, q⟩
end
end UG
end
section
/-! Unitgrids: what a loop or a comprehension walks, by what it yields; loops and comprehensions over it. -/
namespace UG
open PySem PySem.Spec PyProof.Rows L2 RZ
/-- J yields n things; the i-th is said by item (of the heap behind it), while the objects of B stand -/
structure Feed (J : It) (n : Nat) (B : Hp) (item : Nat → V → Hp → Prop) : Prop where
  go : ∀ i H, Same B H → i < n → J.go i H
  stop : ∀ H, Same B H → J.stop n H
  yld : ∀ i H x H', Same B H → i < n → J.yld i H x H' → Same H H' ∧ item i x H'
theorem SqL.same {K : PySem.W.Frag} {H H' : Hp} {a : Addr} {xs : List V} (s : Same H H') (h : SqL K H a xs) : SqL K H' a xs := s.seq h
theorem SqT.same {K : PySem.W.Frag} {H H' : Hp} {a : Addr} {xs : List V} (s : Same H H') (h : SqT K H a xs) : SqT K H' a xs := SqT.tk (Tk.same s) h
section
variable {K : PySem.W.Frag} {B : Hp} {a b : Addr} {xs ys : List V}
theorem feedT (h : SqT K B a xs) : Feed (Itt K a) xs.length B (fun i x _ => xs[i]? = some x) where
  go := fun i H s hi => ⟨xs, xs[i], SqT.same s h, List.getElem?_eq_getElem hi⟩
  stop := fun H s => ⟨xs, SqT.same s h, Nat.le_refl _⟩
  yld := fun i H x H' s hi y => ⟨by rw [y.1]; exact Same.refl _, y.2 _ (SqT.same s h)⟩
theorem feedL (h : SqL K B a xs) : Feed (Itl K a) xs.length B (fun i x _ => xs[i]? = some x) where
  go := fun i H s hi => ⟨xs, xs[i], s.seq h, List.getElem?_eq_getElem hi⟩
  stop := fun H s => ⟨xs, s.seq h, Nat.le_refl _⟩
  yld := fun i H x H' s hi y => ⟨by rw [y.1]; exact Same.refl _, y.2 _ (s.seq h)⟩
theorem feedR (lo : Int) (n : Nat) : Feed (Itr lo n) n B (fun i x _ => x = .int (lo + (i : Nat))) where
  go := fun i H s hi => hi
  stop := fun H s => Nat.le_refl _
  yld := fun i H x H' s hi y => ⟨by rw [y.1]; exact Same.refl _, y.2⟩
/-- pairs (place, item) -/
def pairI (xs : List V) : Nat → V → Hp → Prop := fun i v H' => ∃ T x, v = .ref T ∧ xs[i]? = some x ∧ SqT0 H' T [.int (i : Nat), x]
where SqT0 (H : Hp) (T : Addr) (ys : List V) : Prop := H T = some (.tup ys)
theorem feedE (h : SqL K B a xs) : Feed (Ite K a) xs.length B (pairI xs) where
  go := fun i H s hi => ⟨xs, xs[i], s.seq h, List.getElem?_eq_getElem hi⟩
  stop := fun H s => ⟨xs, s.seq h, Nat.le_refl _⟩
  yld := fun i H x H' s hi y => by
    obtain ⟨T, v, rfl, n, rfl, q⟩ := y
    exact ⟨same_upd n, T, v, rfl, q _ (s.seq h), upd_same⟩
theorem feedET (h : SqT K B a xs) : Feed (IeT K a) xs.length B (pairI xs) where
  go := fun i H s hi => ⟨xs, xs[i], SqT.same s h, List.getElem?_eq_getElem hi⟩
  stop := fun H s => ⟨xs, SqT.same s h, Nat.le_refl _⟩
  yld := fun i H x H' s hi y => by
    obtain ⟨T, v, rfl, n, rfl, q⟩ := y
    exact ⟨same_upd n, T, v, rfl, q _ (SqT.same s h), upd_same⟩
/-- pairs of two rows -/
def pair2 (xs ys : List V) : Nat → V → Hp → Prop := fun i v H' => ∃ T x y, v = .ref T ∧ xs[i]? = some x ∧ ys[i]? = some y ∧ H' T = some (.tup [x, y])
theorem feedZT (h : SqT K B a xs) (h2 : SqT K B b ys) : Feed (ItzT K a b) (min xs.length ys.length) B (pair2 xs ys) where
  go := fun i H s hi => ⟨xs, ys, xs[i]'(by omega), ys[i]'(by omega), SqT.same s h, SqT.same s h2, List.getElem?_eq_getElem _, List.getElem?_eq_getElem _⟩
  stop := fun H s => ⟨xs, ys, SqT.same s h, SqT.same s h2, by omega⟩
  yld := fun i H x H' s hi y => by
    obtain ⟨T, v, u, rfl, n, rfl, q1, q2⟩ := y
    exact ⟨same_upd n, T, v, u, rfl, q1 _ (SqT.same s h), q2 _ (SqT.same s h2), upd_same⟩
theorem feedZL (h : SqL K B a xs) (h2 : SqL K B b ys) : Feed (Itz K a b) (min xs.length ys.length) B (pair2 xs ys) where
  go := fun i H s hi => ⟨xs, ys, xs[i]'(by omega), ys[i]'(by omega), s.seq h, s.seq h2, List.getElem?_eq_getElem _, List.getElem?_eq_getElem _⟩
  stop := fun H s => ⟨xs, ys, s.seq h, s.seq h2, by omega⟩
  yld := fun i H x H' s hi y => by
    obtain ⟨T, v, u, rfl, n, rfl, q1, q2⟩ := y
    exact ⟨same_upd n, T, v, u, rfl, q1 _ (s.seq h), q2 _ (s.seq h2), upd_same⟩
end
/-- the length of a list or tuple that is read -/
def LenO (K : PySem.W.Frag) (H : Hp) (x : V) (n : Nat) : Prop := ∃ p ys, x = .ref p ∧ (SqL K H p ys ∨ SqT K H p ys) ∧ ys.length = n
def rLenO (K : PySem.W.Frag) : List V → Hp → VK → Prop := fun xs H Q => ∃ x n, xs = [x] ∧ LenO K H x n ∧ Q (.int (n : Nat)) H
theorem call_lenO {X : Cx} : CallR X (.builtin "len") (rLenO X.K) := by
  intro pins s σ H xs us Q I r h
  obtain ⟨x, n, rfl, ⟨p, ys, rfl, h1, rfl⟩, q⟩ := h
  exact call_len_seq pins s σ H _ us Q I r ⟨p, ys, rfl, h1, q⟩
theorem Is.len {K : PySem.W.Frag} {H : Hp} {x : V} {ds : List PyData} (h : Is K H x (.tuple ds)) : LenO K H x ds.length := by
  obtain ⟨a, xs, rfl, ht, ha⟩ := h.tup_ex
  exact ⟨a, xs, rfl, .inr ht, ha.length⟩
theorem IsL.len {K : PySem.W.Frag} {H : Hp} {l : Addr} {ds : List PyData} (h : IsL K H l ds) : LenO K H (.ref l) ds.length := by
  obtain ⟨xs, ht, ha⟩ := h.sq
  exact ⟨l, xs, rfl, .inl ht, ha.length⟩
theorem LenO.t {K : PySem.W.Frag} {H : Hp} {a : Addr} {xs : List V} (h : SqT K H a xs) : LenO K H (.ref a) xs.length := ⟨a, xs, rfl, .inr h, rfl⟩
theorem LenO.l {K : PySem.W.Frag} {H : Hp} {a : Addr} {xs : List V} (h : H a = some (.lst xs)) : LenO K H (.ref a) xs.length := ⟨a, xs, rfl, .inl (SqL.of h), rfl⟩
/-! ### rules within a comprehension's block: the module's facts under their own name -/
section
variable {X : Cx} (K : PySem.W.Frag) (eK : X.K = K)
include eK
/-- (a, b) as a target -/
theorem pg2 {i j : Nat} {x y : Str} {px py pos : Pos} {k : Nat} (hN : X.N.Nodup) (hc : X.calm = true) (hi : X.N[i]? = some x) (hj : X.N[j]? = some y) (hx : Loc X.env.scope x) (hy : Loc X.env.scope y)
    (hfx : X.fn x = true ∨ X.env.scope.names.lookup x = some .local) (hfy : X.fn y = true ∨ X.env.scope.names.lookup y = some .local) :
    PG X (.Tuple [.Name x px, .Name y py] k pos) (gTup K 2 (gCons (gName i) (gCons (gName j) gNil))) :=
  eK ▸ pg_tup hc (pgs_cons (pg_name hN hi hx hfx) (pgs_cons (pg_name hN hj hy hfy) pgs_nil))
theorem ix_tupK : IxR X (rIxT K) := eK ▸ ix_tup
theorem ix_listK : IxR X (rIxL K) := eK ▸ ix_list
theorem sl_tupAK : SlR X (rSlA K) := eK ▸ sl_tupA
theorem op_catAK : OpR X (binaryOp .Add) (rCatA K) := eK ▸ op_catA
theorem op_in_seqK : OpR X (compareOp .In) (rIn K false) := eK ▸ op_in_seq
theorem op_notIn_seqK : OpR X (compareOp .NotIn) (rIn K true) := eK ▸ op_notIn_seq
theorem op_eqDK (hu : X.A.units + 64 < cLine) : OpR X (compareOp .Eq) (rEqD K) := eK ▸ op_eqD hu
theorem op_neDK (hu : X.A.units + 64 < cLine) : OpR X (compareOp .NotEq) (rNeD K) := eK ▸ op_neD hu
theorem call_lenOK : CallR X (.builtin "len") (rLenO K) := eK ▸ call_lenO
theorem call_tuple_ofK : CallR X (.type "tuple") (fun xs H Q => ∃ p ys, xs = [.ref p] ∧ ((SqL K H p ys ∧ ∀ l, H l = none → Q (.ref l) (upd H l (.tup ys))) ∨ (SqT K H p ys ∧ Q (.ref p) H))) := eK ▸ call_tuple_of
theorem call_list_ofK : CallR X (.type "list") (fun xs H Q => ∃ p ys, xs = [.ref p] ∧ (SqL K H p ys ∨ SqT K H p ys) ∧ ∀ l, H l = none → Q (.ref l) (upd H l (.lst ys))) := eK ▸ call_list_of
theorem pi_tupK {tg l : Expr} {tl : TE} (hl : PE X l tl) : PI X tg l (iTup K tl) := eK ▸ pi_tup hl
theorem pi_listK {tg l : Expr} {tl : TE} (hl : PE X l tl) : PI X tg l (iList K tl) := eK ▸ pi_list hl
theorem pi_enumTK {e : Expr} {ta : TA} {p pos tpos : Pos} {elts : List Expr} {kk : Nat} (hg : Gl X "enumerate") (hm : X.mg "enumerate" = none) (ha : PA X [e] ta) (hs : starEach [e] X.env = [(false, eval e X.env)]) :
    PI X (.Tuple elts kk tpos) (.Call (.Name "enumerate" p) [e] [] pos) (iIeT K ta) := eK ▸ pi_enumT hg hm ha hs
theorem pi_enumK {e : Expr} {ta : TA} {p pos tpos : Pos} {elts : List Expr} {kk : Nat} (hg : Gl X "enumerate") (hm : X.mg "enumerate" = none) (ha : PA X [e] ta) (hs : starEach [e] X.env = [(false, eval e X.env)]) :
    PI X (.Tuple elts kk tpos) (.Call (.Name "enumerate" p) [e] [] pos) (iEnum K ta) := eK ▸ pi_enum hg hm ha hs
end
/-! ### for -/
section
variable {wi : TI} {g : TG} {tb : TS} {D : Ends} {σ : L2.St} {H : Hp} {J : It} {n : Nat} {B H1 : Hp} {item : Nat → V → Hp → Prop}
/-- a loop's part behind its iterable -/
theorem for_feed (fd : Feed J n B item) (Pv : Nat → L2.St → Hp → Prop) (h0 : Pv 0 σ H1) (hB : ∀ i σ H, Pv i σ H → Same B H)
    (hs : ∀ i x σ H H', i < n → Pv i σ H → Same H H' → item i x H' → g x σ H' fun σ2 H2 => tb { D with nx := Pv (i + 1), ct := Pv (i + 1), bk := D.nx } σ2 H2) (hd : ∀ σ H, Pv n σ H → D.nx σ H) :
    ∃ W : Nat → Nat → L2.St → Hp → Prop, (∃ m, W 0 m σ H1) ∧ ∀ i m σ H, W i m σ H →
      (J.stop i H ∧ D.nx σ H) ∨ (J.go i H ∧ ∃ N : L2.St → Hp → Prop, (∀ σ' H', N σ' H' → ∃ m', m' < m ∧ W (i + 1) m' σ' H') ∧ ∀ x H', J.yld i H x H' → g x σ H' fun σ2 H2 => tb { D with nx := N, ct := N, bk := D.nx } σ2 H2) := by
  refine ⟨fun i m σ H => i + m = n ∧ Pv i σ H, ⟨n, by omega, h0⟩, fun i m σ H hW => ?_⟩
  obtain ⟨e, hP⟩ := hW
  by_cases hi : i < n
  · refine .inr ⟨fd.go i H (hB _ _ _ hP) hi, Pv (i + 1), fun σ' H' hN => ⟨m - 1, by omega, by omega, hN⟩, fun x H' y => ?_⟩
    obtain ⟨s, it⟩ := fd.yld i H x H' (hB _ _ _ hP) hi y
    exact hs i x σ H H' hi hP s it
  · have e : i = n := by omega
    subst e
    exact .inl ⟨fd.stop H (hB _ _ _ hP), hd _ _ hP⟩
theorem forF (fd : Feed J n B item) (hw : ∀ R : It → Hp → Prop, R J H → wi σ H R) (Pv : Nat → L2.St → Hp → Prop) (h0 : Pv 0 σ H) (hB : ∀ i σ H, Pv i σ H → Same B H)
    (hs : ∀ i x σ H H', i < n → Pv i σ H → Same H H' → item i x H' → g x σ H' fun σ2 H2 => tb { D with nx := Pv (i + 1), ct := Pv (i + 1), bk := D.nx } σ2 H2) (hd : ∀ σ H, Pv n σ H → D.nx σ H) : tFor wi g tb D σ H :=
  hw _ (for_feed fd Pv h0 hB hs hd)
/-- .. whose iterable makes things -/
theorem forG (C : It → Hp → Prop) (hw : ∀ R : It → Hp → Prop, (∀ J H1, C J H1 → R J H1) → wi σ H R)
    (body : ∀ J H1, C J H1 → ∃ (n : Nat) (B : Hp) (item : Nat → V → Hp → Prop), Feed J n B item ∧ ∃ Pv : Nat → L2.St → Hp → Prop, Pv 0 σ H1 ∧ (∀ i σ H, Pv i σ H → Same B H) ∧
      (∀ i x σ H H', i < n → Pv i σ H → Same H H' → item i x H' → g x σ H' fun σ2 H2 => tb { D with nx := Pv (i + 1), ct := Pv (i + 1), bk := D.nx } σ2 H2) ∧ ∀ σ H, Pv n σ H → D.nx σ H) : tFor wi g tb D σ H :=
  hw _ fun J H1 c => let ⟨_, _, _, fd, Pv, h0, hB, hs, hd⟩ := body J H1 c; for_feed fd Pv h0 hB hs hd
/-! ### comprehensions -/
variable {tt : TT} {te : TE} {vs : List Nat} {Q : VK}
def LcNx (Pv : Addr → Nat → List V → Hp → Prop) (L : Addr) (i : Nat) : Hp → Prop := fun H' => ∃ acc, H' L = some (.lst acc) ∧ acc.length ≤ i + 1 ∧ Pv L (i + 1) acc H'
def LcGot (Pv : Addr → Nat → List V → Hp → Prop) (L : Addr) (i : Nat) : V → Hp → Prop := fun y H4 => ∃ acc, H4 L = some (.lst acc) ∧ acc.length < sizeLine ∧ LcNx Pv L i (upd H4 L (.lst (acc ++ [y])))
theorem LcGot.mk {Pv : Addr → Nat → List V → Hp → Prop} {L : Addr} {i : Nat} {y : V} {H4 : Hp} {acc : List V} (h : H4 L = some (.lst acc)) (hl : acc.length ≤ i) (hi : i < sizeLine) (hp : Pv L (i + 1) (acc ++ [y]) (upd H4 L (.lst (acc ++ [y])))) : LcGot Pv L i y H4 :=
  ⟨acc, h, Nat.lt_of_le_of_lt hl hi, acc ++ [y], upd_same, by rw [List.length_append]; exact Nat.succ_le_succ hl, hp⟩
theorem LcNx.mk {Pv : Addr → Nat → List V → Hp → Prop} {L : Addr} {i : Nat} {H3 : Hp} {acc : List V} (h : H3 L = some (.lst acc)) (hl : acc.length ≤ i) (hp : Pv L (i + 1) acc H3) : LcNx Pv L i H3 := ⟨acc, h, Nat.le_succ_of_le hl, hp⟩
theorem lc_feed (fd : Feed J n B item) (Pv : Addr → Nat → List V → Hp → Prop) (h0 : ∀ L, H1 L = none → Pv L 0 [] (upd H1 L (.lst []))) (hB : ∀ L i acc H, Pv L i acc H → Same B H)
    (hs : ∀ L i x acc H H', H1 L = none → i < n → Pv L i acc H → H L = some (.lst acc) → acc.length ≤ i → Same H H' → item i x H' → g x (wipe σ vs) H' fun σ2 H2 => wipe σ2 vs = wipe σ vs ∧ tt σ2 H2 fun b H3 =>
      if b = true then te σ2 H3 (LcGot Pv L i) else LcNx Pv L i H3)
    (hd : ∀ L acc H, H1 L = none → Pv L n acc H → H L = some (.lst acc) → acc.length ≤ n → Q (.ref L) H) :
    ∀ L, H1 L = none → ∃ W : Nat → Nat → Hp → Prop, (∃ m, W 0 m (upd H1 L (.lst []))) ∧ ∀ i m H, W i m H →
      (J.stop i H ∧ Q (.ref L) H) ∨ (J.go i H ∧ ∃ Nx : Hp → Prop, (∀ H', Nx H' → ∃ m', m' < m ∧ W (i + 1) m' H') ∧ ∀ x H', J.yld i H x H' → g x (wipe σ vs) H' fun σ2 H2 => wipe σ2 vs = wipe σ vs ∧ tt σ2 H2 fun b H3 =>
        if b = true then te σ2 H3 fun y H4 => ∃ acc, H4 L = some (.lst acc) ∧ acc.length < sizeLine ∧ Nx (upd H4 L (.lst (acc ++ [y]))) else Nx H3) := by
  intro L hL
  refine ⟨fun i m H => i + m = n ∧ ∃ acc, H L = some (.lst acc) ∧ acc.length ≤ i ∧ Pv L i acc H, ⟨n, by omega, [], upd_same, Nat.le_refl _, h0 L hL⟩, fun i m H hW => ?_⟩
  obtain ⟨e, acc, ha, hl, hP⟩ := hW
  by_cases hi : i < n
  · refine .inr ⟨fd.go i H (hB _ _ _ _ hP) hi, LcNx Pv L i, fun H' hN => ⟨m - 1, by omega, by omega, hN⟩, fun x H' y => ?_⟩
    obtain ⟨s, it⟩ := fd.yld i H x H' (hB _ _ _ _ hP) hi y
    exact hs L i x acc H H' hL hi hP ha hl s it
  · have e : i = n := by omega
    subst e
    exact .inl ⟨fd.stop H (hB _ _ _ _ hP), hd L acc H hL hP ha hl⟩
theorem lcF (fd : Feed J n B item) (hw : ∀ R : It → Hp → Prop, R J H → wi σ H R) (Pv : Addr → Nat → List V → Hp → Prop) (h0 : ∀ L, H L = none → Pv L 0 [] (upd H L (.lst []))) (hB : ∀ L i acc H, Pv L i acc H → Same B H)
    (hs : ∀ L i x acc H2 H', H L = none → i < n → Pv L i acc H2 → H2 L = some (.lst acc) → acc.length ≤ i → Same H2 H' → item i x H' → g x (wipe σ vs) H' fun σ2 H2 => wipe σ2 vs = wipe σ vs ∧ tt σ2 H2 fun b H3 =>
      if b = true then te σ2 H3 (LcGot Pv L i) else LcNx Pv L i H3)
    (hd : ∀ L acc H2, H L = none → Pv L n acc H2 → H2 L = some (.lst acc) → acc.length ≤ n → Q (.ref L) H2) : tLc wi g tt te vs σ H Q :=
  hw _ (lc_feed fd Pv h0 hB hs hd)
theorem lcG (C : It → Hp → Prop) (hw : ∀ R : It → Hp → Prop, (∀ J H1, C J H1 → R J H1) → wi σ H R)
    (body : ∀ J H1, C J H1 → ∃ (n : Nat) (B : Hp) (item : Nat → V → Hp → Prop), Feed J n B item ∧ ∃ Pv : Addr → Nat → List V → Hp → Prop, (∀ L, H1 L = none → Pv L 0 [] (upd H1 L (.lst []))) ∧ (∀ L i acc H, Pv L i acc H → Same B H) ∧
      (∀ L i x acc H2 H', H1 L = none → i < n → Pv L i acc H2 → H2 L = some (.lst acc) → acc.length ≤ i → Same H2 H' → item i x H' → g x (wipe σ vs) H' fun σ2 H2 => wipe σ2 vs = wipe σ vs ∧ tt σ2 H2 fun b H3 =>
        if b = true then te σ2 H3 (LcGot Pv L i) else LcNx Pv L i H3) ∧
      ∀ L acc H2, H1 L = none → Pv L n acc H2 → H2 L = some (.lst acc) → acc.length ≤ n → Q (.ref L) H2) : tLc wi g tt te vs σ H Q :=
  hw _ fun J H1 c => let ⟨_, _, _, fd, Pv, h0, hB, hs, hd⟩ := body J H1 c; lc_feed fd Pv h0 hB hs hd
/-- each item gives a value that never changes; nothing else happens -/
def MapP (K : PySem.W.Frag) (B : Hp) (f : Nat → PyData) : Addr → Nat → List V → Hp → Prop := fun _ i acc H => Same B H ∧ IsA K H acc ((List.range i).map f)
theorem MapP.got {K : PySem.W.Frag} {f : Nat → PyData} {L : Addr} {i : Nat} {y : V} {H2 H4 : Hp} {acc : List V} (hB : B L = none) (hp : MapP K B f L i acc H2) (h2 : H2 L = some (.lst acc)) (s : Same H2 H4) (hl : acc.length ≤ i) (hi : i < sizeLine) (hy : Is K H4 y (f i)) : LcGot (MapP K B f) L i y H4 := by
  refine LcGot.mk (s _ _ h2) hl hi ⟨(hp.1.trans s).out hB, ?_⟩
  rw [List.range_succ, List.map_append]
  exact ((hp.2.same s).snoc hy).tk (Tk.lst (s _ _ h2))
theorem lcM {K : PySem.W.Frag} (f : Nat → PyData) (fd : Feed J n H item) (hw : ∀ R : It → Hp → Prop, R J H → wi σ H R)
    (hs : ∀ L i x acc H2 H', H L = none → i < n → MapP K H f L i acc H2 → H2 L = some (.lst acc) → acc.length ≤ i → Same H2 H' → item i x H' → g x (wipe σ vs) H' fun σ2 H2 => wipe σ2 vs = wipe σ vs ∧ tt σ2 H2 fun b H3 =>
      if b = true then te σ2 H3 (LcGot (MapP K H f) L i) else LcNx (MapP K H f) L i H3)
    (hd : ∀ L H2, H L = none → Same H H2 → IsL K H2 L ((List.range n).map f) → Q (.ref L) H2) : tLc wi g tt te vs σ H Q :=
  lcF fd hw (MapP K H f) (fun L hL => ⟨same_upd hL, .nil⟩) (fun _ _ _ _ h => h.1) hs fun L acc H2 hL hp hl _ => hd L H2 hL hp.1 ⟨acc, hl, hp.2⟩
end
end UG
end
section
/-! Unitgrids, checks.py: units. -/
namespace UG
open PySem PySem.Spec PyProof.Rows L2 RZ
section
variable {K : PySem.W.Frag} {H : Hp} {Q : VK}
/-- tuple(list) -/
theorem r_tuple {L : Addr} {ds : List PyData} (hi : IsL K H L ds) (q : ∀ H' v, Same H H' → Is K H' v (.tuple ds) → Q v H') :
    ∃ p ys, [V.ref L] = [V.ref p] ∧ ((SqL K H p ys ∧ ∀ l, H l = none → Q (.ref l) (upd H l (.tup ys))) ∨ (SqT K H p ys ∧ Q (.ref p) H)) := by
  obtain ⟨zs, hz, iz⟩ := hi
  exact ⟨L, zs, rfl, .inl ⟨SqL.of hz, fun l nl => q _ _ (same_upd nl) (Is.mk nl iz)⟩⟩
/-- (a, b) = a pair of the walk -/
theorem gPair {σ : L2.St} {i j : Nat} {T : Addr} {p r : V} {k : L2.St → Hp → Prop} (h : H T = some (.tup [p, r])) (q : k ((σ.set i (some p)).set j (some r)) H) :
    gTup K 2 (gCons (gName i) (gCons (gName j) gNil)) (.ref T) σ H k :=
  ⟨T, [p, r], rfl, SqT.of h, rfl, p, [r], rfl, r, [], rfl, rfl, q⟩
end
def ua (u v : Ut) : Ut := List.zipWith (· + ·) u v
def us (u v : Ut) : Ut := List.zipWith (· - ·) u v
def u0 (b : Nat) : Ut := List.replicate b 0
theorem ua_len {u v : Ut} {b : Nat} (h : u.length = b) (h2 : v.length = b) : (ua u v).length = b := by unfold ua; simp [h, h2]
theorem us_len {u v : Ut} {b : Nat} (h : u.length = b) (h2 : v.length = b) : (us u v).length = b := by unfold us; simp [h, h2]
theorem range_zip (f : Int → Int → Int) : ∀ u v : List Int, (List.range (min u.length v.length)).map (fun i => fr (f (u.getD i 0) (v.getD i 0))) = (List.zipWith f u v).map fr := by
  intro u v
  apply List.ext_getElem?
  intro i
  simp only [List.getElem?_map, List.getElem?_zipWith, List.getElem?_range]
  by_cases h : i < min u.length v.length
  · have h1 : i < u.length := by omega
    have h2 : i < v.length := by omega
    simp [List.getElem?_range h, List.getElem?_eq_getElem h1, List.getElem?_eq_getElem h2, List.getD_eq_getElem?_getD]
  · have : (List.range (min u.length v.length))[i]? = none := by simp; omega
    rw [this]
    by_cases h1 : i < u.length
    · have h2 : v[i]? = none := by simp; omega
      rw [h2]; cases u[i]? <;> rfl
    · have h2 : u[i]? = none := by simp; omega
      rw [h2]; rfl
section
variable {P : Program} {w : World} {K : PySem.W.Frag} {mg : Str → Option Value} {base : Heap}
def sp_is_fraction (K : PySem.W.Frag) : Sp := fun vs H Q _ => ∃ x, vs = [x] ∧ ∃ n, Is K H x (fr n) ∧ Q (.bl true) H
abbrev n_is_fraction : List Str := ["thing"]
theorem sc_is_fraction : FnScope n_is_fraction ["thing"] (defScope s_is_fraction) := ⟨rfl, rfl, rfl, by decide +kernel, rfl, by decide +kernel, by decide +kernel⟩
theorem ok_is_fraction (T : Txt K mg) : Ok P w K mg base "is_fraction" ["thing"] 2 (sp_is_fraction K) := by
  refine T.x_is_fraction.ok sc_is_fraction (fun _ _ _ _ _ _ us hl => match us, hl with | [_], _ => rfl) (fun vs H Q E h => by obtain ⟨_, rfl, _⟩ := h; rfl) (fun f cdv A outer s H vs Q E hr h => ?_)
  obtain ⟨x, rfl, n, hx, q⟩ := h
  refine ⟨_, (pss_cons (ps_if (PW.pt (pw_or (pt_not (pt_val (pe_callB call_isi (by rfl) T.b_isinstance bt_isinstance (pa_cons (pv 0) (pa_cons (pe_bltn (v := .ty "tuple") rfl T.b_tuple bt_tuple rfl) pa_nil))))) (pw_or (pt_cmpR op_ne (pe_callB call_lenO (by rfl) T.b_len bt_len (pa_cons (pv 0) pa_nil)) pe_int (nomark _)) (pw_or (pt_not (pt_val (pc (ok_is_integer T) hr rfl (pa_cons (pe_ix ix_tup (pv 0) pe_int (fun _ _ => rfl)) pa_nil)))) (pw_or1 (pt_not (pt_val (pc (ok_is_integer T) hr rfl (pa_cons (pe_ix ix_tup (pv 0) pe_int (fun _ _ => rfl)) pa_nil)))))))))
      (pss_one (ps_ret pe_bl))
      pss_nil)
    (pss_one (ps_ret (pe_and (pe_cmpR op_ge (pe_ix ix_tup (pv 0) pe_int (fun _ _ => rfl)) pe_int (nomark _)) (pe_one (pe_cmpR op_eq (pc (ok_divisor T) hr rfl (pa_cons (pe_ix ix_tup (pv 0) pe_int (fun _ _ => rfl)) (pa_cons (pe_ix ix_tup (pv 0) pe_int (fun _ _ => rfl)) pa_nil))) pe_int (nomark _))))))), ?_⟩
  dsimp only [tVar, tC, tAdd, tSub, tMul, t2I, tCmp, tIsN, tNotN, tB, tAnd, tOr, tNot, tAndV, tOrV, tNotV, tIf, tSeq, tNext, tDrop, tRet, tRetN, tIfS, tAsg, tAug, tPar, gName, gNil, gCons, gSub, tOp, tUn, tTest, tChain, tCons, tNil, tTup, tLst, tCall, tCB, tMake, tFld, sFld, tNoPart, tPart, tSl, tBM, tBM0, rI0, rI, tYes, Cx.nox, Cx.blk, cxOf, List.nil_append, List.cons_append]
  have ht : Is K H x (.tuple [.int (frp n).1, .int (frp n).2]) := by rw [← fr_eq]; exact hx
  refine ⟨_, rfl, r_tup ht ⟨_, rfl, ?_⟩⟩
  refine ifF rfl ⟨_, rfl, ⟨_, _, rfl, ht.len, rfl, _, rfl, ?_⟩⟩
  refine ifF rfl ⟨_, rfl, hx.fr0 ⟨_, rfl, _, rfl, _, rfl, ?_⟩⟩
  refine ifF rfl ⟨_, rfl, hx.fr1 ⟨_, rfl, _, rfl, _, rfl, ?_⟩⟩
  refine ifF rfl ⟨_, rfl, hx.fr1 ⟨_, _, rfl, rfl, _, rfl, ?_⟩⟩
  have h1 : (1 : Int) ≤ (frp n).2 := by rcases frp_below n with e | e <;> rw [e] <;> decide
  refine ifT (decide_eq_true h1) ⟨_, rfl, hx.fr0 ⟨_, rfl, hx.fr1 ⟨_, _, rfl, _, _, rfl, rfl, rfl, ?_⟩⟩⟩
  have hg : Int.gcd (frp n).1 (frp n).2 = 1 := by
    unfold frp
    split
    · show Int.gcd (n / 2) 1 = 1
      simp
    · rename_i hh
      show Int.gcd n 2 = 1
      rw [show Int.gcd n 2 = Nat.gcd n.natAbs 2 from rfl, Nat.gcd_comm, Nat.gcd_rec, show n.natAbs % 2 = 1 by omega]
      rfl
  rw [hg]
  exact q
def sp_is_unit_of (K : PySem.W.Frag) : Sp := fun vs H Q _ => ∃ x y, vs = [x, y] ∧ ∃ u : Ut, x = .int (u.length : Nat) ∧ u.length < 100 ∧ Is K H y (un u) ∧ ∀ H', Same H H' → Q (.bl true) H'
theorem all_true (n : Nat) : ((List.range n).map fun _ => true).all id = true := by simp
theorem IsA.trues {H : Hp} {acc : List V} {n : Nat} (h : IsA K H acc ((List.range n).map fun _ => PyData.bool true)) : acc = ((List.range n).map fun _ => true).map V.bl := by
  have : (List.range n).map (fun _ => PyData.bool true) = ((List.range n).map fun _ => true).map PyData.bool := by rw [List.map_map]; rfl
  rw [this] at h
  generalize ((List.range n).map fun _ => true) = bs at h
  induction bs generalizing acc with
  | nil => cases h; rfl
  | cons b bs ih =>
    cases h with
    | cons h a => rw [h.bl_eq, ih a]; rfl
abbrev n_is_unit_of : List Str := ["bases", "thing", "item"]
theorem sc_is_unit_of : FnScope n_is_unit_of ["bases", "thing"] (defScope s_is_unit_of) := ⟨rfl, rfl, rfl, by decide +kernel, rfl, by decide +kernel, by decide +kernel⟩
theorem ok_is_unit_of (T : Txt K mg) : Ok P w K mg base "is_unit_of" ["bases", "thing"] 3 (sp_is_unit_of K) := by
  refine T.x_is_unit_of.ok sc_is_unit_of (fun _ _ _ _ _ _ us hl => match us, hl with | [_, _], _ => rfl) (fun vs H Q E h => by obtain ⟨_, _, rfl, _⟩ := h; rfl) (fun f cdv A outer s H vs Q E hr h => ?_)
  obtain ⟨x, y, rfl, u, rfl, hz, hy, q⟩ := h
  obtain ⟨a, xs, rfl, ht, ha⟩ := hy.tup_ex
  refine ⟨_, (pss_one (ps_ret (pe_and (pe_callB call_isi (by rfl) T.b_isinstance bt_isinstance (pa_cons (pv 1) (pa_cons (pe_bltn (v := .ty "tuple") rfl T.b_tuple bt_tuple rfl) pa_nil))) (pe_and (pe_cmpR op_eq (pe_callB call_lenO (by rfl) T.b_len bt_len (pa_cons (pv 1) pa_nil)) (pv 0) (nomark _)) (pe_one (pe_callB (cr_all rfl) (by rfl) T.b_all bt_all (pa_cons (pe_lc (own := [("item", 2)]) rfl sc_is_unit_of.nd (pi_tup (pv 1)) (blkOk_by (N := n_is_unit_of) (sc := defScope s_is_unit_of) (by decide +kernel)) (fun _ _ _ _ _ => (pg_name (i := 2) sc_is_unit_of.nd rfl (.inl rfl))) (fun _ _ _ _ _ => pts_nil) (fun _ _ _ _ _ => (pc (ok_is_fraction T) hr rfl (pa_cons (pv 2) pa_nil)))) pa_nil))))))), ?_⟩
  dsimp only [tVar, tC, tAdd, tSub, tMul, t2I, tCmp, tIsN, tNotN, tB, tAnd, tOr, tNot, tAndV, tOrV, tNotV, tIf, tSeq, tNext, tDrop, tRet, tRetN, tIfS, tAsg, tAug, tPar, gName, gNil, gCons, gSub, tOp, tUn, tTest, tChain, tCons, tNil, tTup, tLst, tCall, tCB, tMake, tFld, sFld, tNoPart, tPart, tSl, tBM, tBM0, rI0, rI, tYes, Cx.nox, Cx.blk, cxOf, List.nil_append, List.cons_append]
  refine ⟨_, rfl, r_tup hy ⟨_, rfl, ifT rfl ⟨_, rfl, ⟨_, _, rfl, hy.len, _, rfl, rfl, _, rfl, ?_⟩⟩⟩⟩
  refine ifT (by simp) ?_
  have hx : xs.length = u.length := by rw [ha.length, List.length_map]
  refine lcM (K := K) (f := fun _ => .bool true) (feedT ht) (fun R r => ?_) (fun L i x acc H2 H' hL hi hp hl hle s it => ?_) (fun L H2 hL s hi => ?_)
  · exact ⟨_, rfl, a, rfl, ⟨_, ht⟩, r⟩
  · obtain ⟨n, hn, hv⟩ := ha.getM' it
    dsimp only [tVar, tC, tAdd, tSub, tMul, t2I, tCmp, tIsN, tNotN, tB, tAnd, tOr, tNot, tAndV, tOrV, tNotV, tIf, tSeq, tNext, tDrop, tRet, tRetN, tIfS, tAsg, tAug, tPar, gName, gNil, gCons, gSub, tOp, tUn, tTest, tChain, tCons, tNil, tTup, tLst, tCall, tCB, tMake, tFld, sFld, tNoPart, tPart, tSl, tBM, tBM0, rI0, rI, tYes, Cx.nox, Cx.blk, cxOf, List.nil_append, List.cons_append]
    refine ⟨rfl, ifT rfl ⟨_, rfl, _, rfl, n, (hv.same hp.1).same s, ?_⟩⟩
    exact hp.got hL hl s hle (Nat.lt_trans hi (by rw [hx]; exact Nat.lt_trans hz (by decide))) (.bl true)
  · obtain ⟨acc, hl, hi⟩ := hi
    refine ⟨L, (List.range xs.length).map (fun _ => true), rfl, ?_, ?_⟩
    · rw [hi.trues] at hl
      exact SqL.of hl
    · rw [all_true]
      exact q _ s
def sp_unitless (K : PySem.W.Frag) : Sp := fun vs H Q _ => ∃ x, vs = [x] ∧ ∃ b : Nat, x = .int (b : Nat) ∧ 1 ≤ b ∧ b ≤ 100 ∧ ∀ H' v, Same H H' → Is K H' v (un (u0 b)) → Q v H'
theorem flat_one {α : Type} (v : α) (n : Nat) : (List.replicate n [v]).flatten = List.replicate n v := by
  induction n with
  | zero => rfl
  | succ n ih => rw [List.replicate_succ, List.flatten_cons, ih]; rfl
theorem fr0_eq : fr 0 = .tuple [.int 0, .int 1] := rfl
theorem un_u0 (b : Nat) : un (u0 b) = .tuple (List.replicate b (fr 0)) := by unfold un u0; rw [List.map_replicate]
/-- ((0, 1),) * b -/
theorem r_unitless {H : Hp} {p t : Addr} {b : Nat} {Q : VK} (h1 : 1 ≤ b) (h2 : b ≤ 100) (np : H p = none) (nt : (upd H p (.tup [.int 0, .int 1])) t = none) (q : ∀ H' v, Same H H' → Is K H' v (un (u0 b)) → Q v H') :
    rRepA K (.ref t) (.int (b : Nat)) (upd (upd H p (.tup [.int 0, .int 1])) t (.tup [.ref p])) Q := by
  have i1 : Is K (upd H p (.tup [.int 0, .int 1])) (.ref p) (fr 0) := is_pair np
  have s1 : Same H (upd (upd H p (.tup [.int 0, .int 1])) t (.tup [.ref p])) := (same_upd np).trans (same_upd nt)
  have i2 := i1.same (same_upd (o := .tup [.ref p]) nt)
  refine ⟨t, _, _, rfl, rfl, SqT.of upd_same, by simp, by omega, by omega, by show 1 ≤ 1000; decide, fun e => ?_, fun e r nr => ?_⟩
  · have e : b = 1 := by omega
    subst e
    exact q _ _ s1 (Is.mk nt (.one i1))
  · refine q _ _ (s1.trans (same_upd nr)) ?_
    rw [un_u0]
    refine Is.mk nr ?_
    rw [Int.toNat_natCast, flat_one]
    exact IsA.rep i2 b
theorem one_le : 1 ≤ sizeLine := by decide
abbrev n_unitless : List Str := ["bases"]
theorem sc_unitless : FnScope n_unitless ["bases"] (defScope s_unitless) := ⟨rfl, rfl, rfl, by decide +kernel, rfl, by decide +kernel, by decide +kernel⟩
theorem ok_unitless (T : Txt K mg) : Ok P w K mg base "unitless" ["bases"] 1 (sp_unitless K) := by
  refine T.x_unitless.ok sc_unitless (fun _ _ _ _ _ _ us hl => match us, hl with | [_], _ => rfl) (fun vs H Q E h => by obtain ⟨_, rfl, _⟩ := h; rfl) (fun f cdv A outer s H vs Q E hr h => ?_)
  obtain ⟨x, rfl, b, rfl, h1, h2, q⟩ := h
  refine ⟨_, (pss_one (ps_ret (pe_op op_repA (pe_tup (pa_cons (pe_tup (pa_cons pe_int (pa_cons pe_int pa_nil))) pa_nil)) (pv 0)))), ?_⟩
  dsimp only [tVar, tC, tAdd, tSub, tMul, t2I, tCmp, tIsN, tNotN, tB, tAnd, tOr, tNot, tAndV, tOrV, tNotV, tIf, tSeq, tNext, tDrop, tRet, tRetN, tIfS, tAsg, tAug, tPar, gName, gNil, gCons, gSub, tOp, tUn, tTest, tChain, tCons, tNil, tTup, tLst, tCall, tCB, tMake, tFld, sFld, tNoPart, tPart, tSl, tBM, tBM0, rI0, rI, tYes, Cx.nox, Cx.blk, cxOf, List.nil_append, List.cons_append]
  exact ⟨two_le, fun p np => ⟨one_le, fun t nt => ⟨_, rfl, r_unitless h1 h2 np nt q⟩⟩⟩
def sp_unit_plus (K : PySem.W.Frag) : Sp := fun vs H Q _ => ∃ x y, vs = [x, y] ∧ ∃ u v : Ut, Is K H x (un u) ∧ Is K H y (un v) ∧ u.length < 100 ∧ ∀ H' z, Same H H' → Is K H' z (un (ua u v)) → Q z H'
def sp_unit_minus (K : PySem.W.Frag) : Sp := fun vs H Q _ => ∃ x y, vs = [x, y] ∧ ∃ u v : Ut, Is K H x (un u) ∧ Is K H y (un v) ∧ u.length < 100 ∧ ∀ H' z, Same H H' → Is K H' z (un (us u v)) → Q z H'
theorem getD_of {xs : List Int} {i : Nat} {x : Int} (h : xs[i]? = some x) : xs.getD i 0 = x := by rw [List.getD_eq_getElem?_getD, h]; rfl
abbrev n_unit_plus : List Str := ["one", "other", "first", "second"]
theorem sc_unit_plus : FnScope n_unit_plus ["one", "other"] (defScope s_unit_plus) := ⟨rfl, rfl, rfl, by decide +kernel, rfl, by decide +kernel, by decide +kernel⟩
theorem ok_unit_plus (T : Txt K mg) : Ok P w K mg base "unit_plus" ["one", "other"] 4 (sp_unit_plus K) := by
  refine T.x_unit_plus.ok sc_unit_plus (fun _ _ _ _ _ _ us hl => match us, hl with | [_, _], _ => rfl) (fun vs H Q E h => by obtain ⟨_, _, rfl, _⟩ := h; rfl) (fun f cdv A outer s H vs Q E hr h => ?_)
  obtain ⟨x, y, rfl, u, v, hx, hy, hz, q⟩ := h
  obtain ⟨a, xs, rfl, ht, ha⟩ := hx.tup_ex
  obtain ⟨b, ys, rfl, ht2, hb⟩ := hy.tup_ex
  refine ⟨_, (pss_one (ps_ret (pe_callTy call_tuple_of (by rfl) T.b_tuple bt_tuple (pa_cons (pe_lc (own := [("first", 2), ("second", 3)]) rfl sc_unit_plus.nd (pi_zipA rfl T.b_zip (pa_cons (pv 0) (pa_cons (pv 1) pa_nil))) (blkOk_by (N := n_unit_plus) (sc := defScope s_unit_plus) (by decide +kernel)) (fun _ _ _ _ _ => (by refine pg2 (i := 2) (j := 3) K rfl sc_unit_plus.nd ?_ ?_ ?_ ?_ ?_ ?_ ?_ <;> first | rfl | exact .inl rfl | exact .inr rfl)) (fun _ _ _ _ _ => pts_nil) (fun _ _ _ _ _ => (pc (ok_plus T) hr rfl (pa_cons (pv 2) (pa_cons (pv 3) pa_nil))))) pa_nil)))), ?_⟩
  dsimp only [tVar, tC, tAdd, tSub, tMul, t2I, tCmp, tIsN, tNotN, tB, tAnd, tOr, tNot, tAndV, tOrV, tNotV, tIf, tSeq, tNext, tDrop, tRet, tRetN, tIfS, tAsg, tAug, tPar, gName, gNil, gCons, gSub, tOp, tUn, tTest, tChain, tCons, tNil, tTup, tLst, tCall, tCB, tMake, tFld, sFld, tNoPart, tPart, tSl, tBM, tBM0, rI0, rI, tYes, Cx.nox, Cx.blk, cxOf, List.nil_append, List.cons_append]
  have ex : xs.length = u.length := by rw [ha.length, List.length_map]
  have ey : ys.length = v.length := by rw [hb.length, List.length_map]
  refine lcM (K := K) (f := fun i => fr (u.getD i 0 + v.getD i 0)) (feedZT ht ht2) (fun R r => ?_) (fun L i x acc H2 H' hL hi hp hl hle s it => ?_) (fun L H2 hL s hi => ?_)
  · exact ⟨_, rfl, _, rfl, a, b, xs, ys, rfl, .inr ⟨ht, ht2, r⟩⟩
  · obtain ⟨T, p, r, rfl, e1, e2, e3⟩ := it
    obtain ⟨m, hm, im⟩ := ha.getM' e1
    obtain ⟨n, hn, iN⟩ := hb.getM' e2
    refine gPair e3 ?_
    dsimp only [tVar, tC, tAdd, tSub, tMul, t2I, tCmp, tIsN, tNotN, tB, tAnd, tOr, tNot, tAndV, tOrV, tNotV, tIf, tSeq, tNext, tDrop, tRet, tRetN, tIfS, tAsg, tAug, tPar, gName, gNil, gCons, gSub, tOp, tUn, tTest, tChain, tCons, tNil, tTup, tLst, tCall, tCB, tMake, tFld, sFld, tNoPart, tPart, tSl, tBM, tBM0, rI0, rI, tYes, Cx.nox, Cx.blk, cxOf, List.nil_append, List.cons_append]
    refine ⟨rfl, ifT rfl ⟨_, rfl, _, rfl, _, _, rfl, m, n, (im.same hp.1).same s, (iN.same hp.1).same s, fun H4 z s4 hz4 => ?_⟩⟩
    refine hp.got hL hl (s.trans s4) hle (Nat.lt_trans hi (by rw [ex]; exact Nat.lt_of_le_of_lt (Nat.min_le_left _ _) (Nat.lt_trans hz (by decide)))) ?_
    rw [getD_of hm, getD_of hn]
    exact hz4
  · refine r_tuple hi fun H' z s' hz' => q H' z (s.trans s') ?_
    rw [ex, ey, range_zip fun a b => a + b] at hz'
    exact hz'
abbrev n_unit_minus : List Str := ["one", "other", "first", "second"]
theorem sc_unit_minus : FnScope n_unit_minus ["one", "other"] (defScope s_unit_minus) := ⟨rfl, rfl, rfl, by decide +kernel, rfl, by decide +kernel, by decide +kernel⟩
theorem ok_unit_minus (T : Txt K mg) : Ok P w K mg base "unit_minus" ["one", "other"] 4 (sp_unit_minus K) := by
  refine T.x_unit_minus.ok sc_unit_minus (fun _ _ _ _ _ _ us hl => match us, hl with | [_, _], _ => rfl) (fun vs H Q E h => by obtain ⟨_, _, rfl, _⟩ := h; rfl) (fun f cdv A outer s H vs Q E hr h => ?_)
  obtain ⟨x, y, rfl, u, v, hx, hy, hz, q⟩ := h
  obtain ⟨a, xs, rfl, ht, ha⟩ := hx.tup_ex
  obtain ⟨b, ys, rfl, ht2, hb⟩ := hy.tup_ex
  refine ⟨_, (pss_one (ps_ret (pe_callTy call_tuple_of (by rfl) T.b_tuple bt_tuple (pa_cons (pe_lc (own := [("first", 2), ("second", 3)]) rfl sc_unit_minus.nd (pi_zipA rfl T.b_zip (pa_cons (pv 0) (pa_cons (pv 1) pa_nil))) (blkOk_by (N := n_unit_minus) (sc := defScope s_unit_minus) (by decide +kernel)) (fun _ _ _ _ _ => (by refine pg2 (i := 2) (j := 3) K rfl sc_unit_minus.nd ?_ ?_ ?_ ?_ ?_ ?_ ?_ <;> first | rfl | exact .inl rfl | exact .inr rfl)) (fun _ _ _ _ _ => pts_nil) (fun _ _ _ _ _ => (pc (ok_minus T) hr rfl (pa_cons (pv 2) (pa_cons (pv 3) pa_nil))))) pa_nil)))), ?_⟩
  dsimp only [tVar, tC, tAdd, tSub, tMul, t2I, tCmp, tIsN, tNotN, tB, tAnd, tOr, tNot, tAndV, tOrV, tNotV, tIf, tSeq, tNext, tDrop, tRet, tRetN, tIfS, tAsg, tAug, tPar, gName, gNil, gCons, gSub, tOp, tUn, tTest, tChain, tCons, tNil, tTup, tLst, tCall, tCB, tMake, tFld, sFld, tNoPart, tPart, tSl, tBM, tBM0, rI0, rI, tYes, Cx.nox, Cx.blk, cxOf, List.nil_append, List.cons_append]
  have ex : xs.length = u.length := by rw [ha.length, List.length_map]
  have ey : ys.length = v.length := by rw [hb.length, List.length_map]
  refine lcM (K := K) (f := fun i => fr (u.getD i 0 - v.getD i 0)) (feedZT ht ht2) (fun R r => ?_) (fun L i x acc H2 H' hL hi hp hl hle s it => ?_) (fun L H2 hL s hi => ?_)
  · exact ⟨_, rfl, _, rfl, a, b, xs, ys, rfl, .inr ⟨ht, ht2, r⟩⟩
  · obtain ⟨T, p, r, rfl, e1, e2, e3⟩ := it
    obtain ⟨m, hm, im⟩ := ha.getM' e1
    obtain ⟨n, hn, iN⟩ := hb.getM' e2
    refine gPair e3 ?_
    dsimp only [tVar, tC, tAdd, tSub, tMul, t2I, tCmp, tIsN, tNotN, tB, tAnd, tOr, tNot, tAndV, tOrV, tNotV, tIf, tSeq, tNext, tDrop, tRet, tRetN, tIfS, tAsg, tAug, tPar, gName, gNil, gCons, gSub, tOp, tUn, tTest, tChain, tCons, tNil, tTup, tLst, tCall, tCB, tMake, tFld, sFld, tNoPart, tPart, tSl, tBM, tBM0, rI0, rI, tYes, Cx.nox, Cx.blk, cxOf, List.nil_append, List.cons_append]
    refine ⟨rfl, ifT rfl ⟨_, rfl, _, rfl, _, _, rfl, m, n, (im.same hp.1).same s, (iN.same hp.1).same s, fun H4 z s4 hz4 => ?_⟩⟩
    refine hp.got hL hl (s.trans s4) hle (Nat.lt_trans hi (by rw [ex]; exact Nat.lt_of_le_of_lt (Nat.min_le_left _ _) (Nat.lt_trans hz (by decide)))) ?_
    rw [getD_of hm, getD_of hn]
    exact hz4
  · refine r_tuple hi fun H' z s' hz' => q H' z (s.trans s') ?_
    rw [ex, ey, range_zip fun a b => a - b] at hz'
    exact hz'
end
end UG
end
section
/-! Unitgrids, grids.py: parts, cells, rows, the class Grid, one cell replaced. -/
namespace UG
open PySem PySem.Spec PyProof.Rows L2 RZ
section
variable {K : PySem.W.Frag} {H : Hp} {Q : VK} {x y : V}
/-- t + u -/
theorem r_cat {ds es : List PyData} (hx : Is K H x (.tuple ds)) (hy : Is K H y (.tuple es)) (hz : ds.length + es.length ≤ sizeLine) (q : ∀ H' v, Same H H' → Is K H' v (.tuple (ds ++ es)) → Q v H') : rCatA K x y H Q := by
  obtain ⟨a, xs, rfl, ht, ha⟩ := hx.tup_ex
  obtain ⟨b, ys, rfl, ht2, hb⟩ := hy.tup_ex
  refine ⟨a, b, xs, ys, rfl, rfl, ht, ht2, by rw [ha.length, hb.length]; exact hz, fun e => ?_, fun _ e => ?_, fun _ _ p np => q _ _ (same_upd np) (Is.mk np (ha.append hb))⟩
  · subst e
    cases ha
    exact q _ _ (Same.refl _) hy
  · subst e
    cases hb
    rw [List.append_nil] at q
    exact q _ _ (Same.refl _) hx
/-- the part of a row between two bounds -/
def cutD (ds : List PyData) (lo hi : Option Int) : List PyData := (ds.drop (HT.sIx ds.length 0 lo)).take (HT.sIx ds.length ds.length hi - HT.sIx ds.length 0 lo)
theorem IsA.cut {xs : List V} {ds : List PyData} (h : IsA K H xs ds) (lo hi : Option Int) : IsA K H (cutV xs lo hi) (cutD ds lo hi) := by
  unfold cutV cutD
  rw [h.length]
  exact (h.drop _).take _
/-- t[lo:hi] -/
theorem r_sl {ds : List PyData} {lo hi : Option Int} (hx : Is K H x (.tuple ds)) (q : ∀ H' v, Same H H' → Is K H' v (.tuple (cutD ds lo hi)) → Q v H') : rSlA K x lo hi H Q := by
  obtain ⟨a, xs, rfl, ht, ha⟩ := hx.tup_ex
  refine ⟨a, xs, rfl, ht, fun e => ?_, fun _ p np => q _ _ (same_upd np) (Is.mk np (ha.cut lo hi))⟩
  rw [ha.length] at e
  refine q _ _ (Same.refl _) ?_
  unfold cutD
  rw [e.1, e.2, List.drop_zero, Nat.sub_zero, List.take_length]
  exact hx
theorem cut_take (ds : List PyData) {j : Nat} (h : j ≤ ds.length) : cutD ds none (some (j : Int)) = ds.take j := by
  unfold cutD
  rw [HT.sIx_none, HT.sIx_nat, List.drop_zero, Nat.min_eq_left h, Nat.sub_zero]
theorem cut_drop (ds : List PyData) {j : Nat} (h : j ≤ ds.length) : cutD ds (some (j : Int)) none = ds.drop j := by
  unfold cutD
  rw [HT.sIx_none, HT.sIx_nat, Nat.min_eq_left h]
  exact List.take_of_length_le (by rw [List.length_drop]; exact Nat.le_refl _)
theorem set_parts : ∀ (ds : List PyData) (j : Nat) (d : PyData), j < ds.length → ds.take j ++ [d] ++ ds.drop (j + 1) = ds.set j d
  | _ :: _, 0, _, _ => rfl
  | x :: ds, j + 1, d, h => by
    have := set_parts ds j d (by simpa using h)
    simp only [List.take_succ_cons, List.drop_succ_cons, List.cons_append, List.set_cons_succ]
    rw [← this]
  | [], j, d, h => by simp at h
/-- (a, b) = a pair -/
theorem gIs2 {σ : L2.St} {i j : Nat} {d e : PyData} {k : L2.St → Hp → Prop} (h : Is K H x (.tuple [d, e])) (q : ∀ v w, Is K H v d → Is K H w e → k ((σ.set i (some v)).set j (some w)) H) :
    gTup K 2 (gCons (gName i) (gCons (gName j) gNil)) x σ H k := by
  obtain ⟨a, xs, rfl, ht, ha⟩ := h.tup_ex
  cases ha with
  | cons h1 ha =>
    cases ha with
    | cons h2 ha =>
      cases ha
      exact ⟨a, _, rfl, ht, rfl, _, _, rfl, _, _, rfl, rfl, q _ _ h1 h2⟩
end
/-- the units of the law's grids -/
def OkU (b : Nat) (u : Ut) : Prop := u.length = b ∧ ∀ n ∈ u, -4 ≤ n ∧ n ≤ 4
def OkC (b : Nat) (c : Option Ut) : Prop := ∀ u, c = some u → OkU b u
abbrev Gd := List (List (Option Ut))
structure OkG (b : Nat) (g : Gd) : Prop where
  b1 : 1 ≤ b
  b2 : b ≤ 2
  n1 : 1 ≤ g.length
  n2 : g.length ≤ 10
  sq : ∀ r ∈ g, r.length = g.length
  ok : ∀ r ∈ g, ∀ c ∈ r, OkC b c
theorem le_line {n : Nat} (h : n ≤ 1000) : n ≤ sizeLine := Nat.le_trans h (by decide)
theorem lt_line {n : Nat} (h : n ≤ 1000) : n < sizeLine := Nat.lt_of_le_of_lt h (by decide)
section
variable {P : Program} {w : World} {K : PySem.W.Frag} {mg : Str → Option Value} {base : Heap}
def sp_is_part (K : PySem.W.Frag) : Sp := fun vs H Q _ => ∃ x, vs = [x] ∧ ∃ ds, Is K H x (.tuple ds) ∧ 1 ≤ ds.length ∧ ds.length ≤ 10 ∧ Q (.bl true) H
abbrev n_is_part : List Str := ["thing"]
theorem sc_is_part : FnScope n_is_part ["thing"] (defScope s_is_part) := ⟨rfl, rfl, rfl, by decide +kernel, rfl, by decide +kernel, by decide +kernel⟩
theorem ok_is_part (T : Txt K mg) : Ok P w K mg base "is_part" ["thing"] 1 (sp_is_part K) := by
  refine T.x_is_part.ok sc_is_part (fun _ _ _ _ _ _ us hl => match us, hl with | [_], _ => rfl) (fun vs H Q E h => by obtain ⟨_, rfl, _⟩ := h; rfl) (fun f cdv A outer s H vs Q E hr h => ?_)
  obtain ⟨x, rfl, ds, hx, h1, h2, q⟩ := h
  refine ⟨_, (pss_one (ps_ret (pe_and (pe_callB call_isi (by rfl) T.b_isinstance bt_isinstance (pa_cons (pv 0) (pa_cons (pe_bltn (v := .ty "tuple") rfl T.b_tuple bt_tuple rfl) pa_nil))) (pe_one (pe_chain op_le op_le pe_int (pe_callB call_lenO (by rfl) T.b_len bt_len (pa_cons (pv 0) pa_nil)) (pe_gi T.e_MOST_ROWS rfl)))))), ?_⟩
  dsimp only [tVar, tC, tAdd, tSub, tMul, t2I, tCmp, tIsN, tNotN, tB, tAnd, tOr, tNot, tAndV, tOrV, tNotV, tIf, tSeq, tNext, tDrop, tRet, tRetN, tIfS, tAsg, tAug, tPar, gName, gNil, gCons, gSub, tOp, tUn, tTest, tChain, tCons, tNil, tTup, tLst, tCall, tCB, tMake, tFld, sFld, tNoPart, tPart, tSl, tBM, tBM0, rI0, rI, tYes, Cx.nox, Cx.blk, cxOf, List.nil_append, List.cons_append]
  refine ⟨_, rfl, r_tup hx ⟨_, rfl, ifT rfl ⟨_, rfl, _, _, rfl, hx.len, _, _, rfl, rfl, _, rfl, ?_⟩⟩⟩
  refine ifT (decide_eq_true (by omega)) ⟨_, _, rfl, rfl, ?_⟩
  rw [decide_eq_true (show ((ds.length : Nat) : Int) ≤ 10 by omega)]
  exact q
def sp_is_cell (K : PySem.W.Frag) : Sp := fun vs H Q _ => ∃ x y, vs = [x, y] ∧ ∃ (b : Nat) (c : Option Ut), x = .int (b : Nat) ∧ b ≤ 2 ∧ Is K H y (cel c) ∧ OkC b c ∧ ∀ H', Same H H' → Q (.bl true) H'
abbrev n_is_cell : List Str := ["bases", "thing", "top", "bottom"]
theorem sc_is_cell : FnScope n_is_cell ["bases", "thing"] (defScope s_is_cell) := ⟨rfl, rfl, rfl, by decide +kernel, rfl, by decide +kernel, by decide +kernel⟩
theorem ok_is_cell (T : Txt K mg) : Ok P w K mg base "is_cell" ["bases", "thing"] 4 (sp_is_cell K) := by
  refine T.x_is_cell.ok sc_is_cell (fun _ _ _ _ _ _ us hl => match us, hl with | [_, _], _ => rfl) (fun vs H Q E h => by obtain ⟨_, _, rfl, _⟩ := h; rfl) (fun f cdv A outer s H vs Q E hr h => ?_)
  obtain ⟨x, y, rfl, b, c, rfl, hb, hy, hc, q⟩ := h
  refine ⟨_, (pss_cons (ps_if (pt_cmp (pc_isN (pv 1)))
      (pss_one (ps_ret pe_bl))
      pss_nil)
    (pss_cons (ps_if (pt_not (pt_val (pc (ok_is_unit_of T) hr rfl (pa_cons (pv 0) (pa_cons (pv 1) pa_nil)))))
      (pss_one (ps_ret pe_bl))
      pss_nil)
    (pss_one (ps_ret (pe_callB (cr_all rfl) (by rfl) T.b_all bt_all (pa_cons (pe_lc (own := [("top", 2), ("bottom", 3)]) rfl sc_is_cell.nd (pi_tup (pv 1)) (blkOk_by (N := n_is_cell) (sc := defScope s_is_cell) (by decide +kernel)) (fun _ _ _ _ _ => (by refine pg2 (i := 2) (j := 3) K rfl sc_is_cell.nd ?_ ?_ ?_ ?_ ?_ ?_ ?_ <;> first | rfl | exact .inl rfl | exact .inr rfl)) (fun _ _ _ _ _ => pts_nil) (fun _ _ _ _ _ => (pe_and (pe_cmpR op_le (pe_callB call_abs (by rfl) T.b_abs bt_abs (pa_cons (pv 2) pa_nil)) (pe_gi T.e_MOST_TOP rfl) (nomark _)) (pe_one (pe_cmpR op_le (pv 3) (pe_gi T.e_MOST_BOTTOM rfl) (nomark _)))))) pa_nil)))))), ?_⟩
  dsimp only [tVar, tC, tAdd, tSub, tMul, t2I, tCmp, tIsN, tNotN, tB, tAnd, tOr, tNot, tAndV, tOrV, tNotV, tIf, tSeq, tNext, tDrop, tRet, tRetN, tIfS, tAsg, tAug, tPar, gName, gNil, gCons, gSub, tOp, tUn, tTest, tChain, tCons, tNil, tTup, tLst, tCall, tCB, tMake, tFld, sFld, tNoPart, tPart, tSl, tBM, tBM0, rI0, rI, tYes, Cx.nox, Cx.blk, cxOf, List.nil_append, List.cons_append]
  cases c with
  | none =>
    have e : y = .non := hy.non_eq
    subst e
    exact ⟨_, rfl, _, rfl, ifT rfl (q H (Same.refl _))⟩
  | some u =>
    have hy : Is K H y (un u) := hy
    obtain ⟨hu, hn⟩ := hc u rfl
    subst hu
    refine ⟨_, rfl, _, rfl, ifF (decide_eq_false hy.notNon) ?_⟩
    refine ⟨_, rfl, _, rfl, _, _, rfl, u, rfl, by omega, hy, fun H1 s1 => ⟨_, rfl, ifF rfl ?_⟩⟩
    have hy := hy.same s1
    obtain ⟨a, xs, rfl, ht, ha⟩ := hy.tup_ex
    have hx : xs.length = u.length := by rw [ha.length, List.length_map]
    refine lcM (K := K) (f := fun _ => .bool true) (feedT ht) (fun R r => ?_) (fun L i x acc H2 H' hL hi hp hl hle s it => ?_) (fun L H2 hL s hi => ?_)
    · exact ⟨_, rfl, a, rfl, ⟨_, ht⟩, r⟩
    · obtain ⟨n, hm, hv⟩ := ha.getM' it
      have hv := (hv.same hp.1).same s
      rw [fr_eq] at hv
      have hb := hn n (List.mem_of_getElem? hm)
      refine gIs2 hv fun v w hv hw => ?_
      dsimp only [tVar, tC, tAdd, tSub, tMul, t2I, tCmp, tIsN, tNotN, tB, tAnd, tOr, tNot, tAndV, tOrV, tNotV, tIf, tSeq, tNext, tDrop, tRet, tRetN, tIfS, tAsg, tAug, tPar, gName, gNil, gCons, gSub, tOp, tUn, tTest, tChain, tCons, tNil, tTup, tLst, tCall, tCB, tMake, tFld, sFld, tNoPart, tPart, tSl, tBM, tBM0, rI0, rI, tYes, Cx.nox, Cx.blk, cxOf, List.nil_append, List.cons_append]
      have e1 := hv.int_eq
      have e2 := hw.int_eq
      subst e1 e2
      have hf : (if (frp n).1 < 0 then -(frp n).1 else (frp n).1) ≤ 6 ∧ (frp n).2 ≤ 4 := by
        unfold frp
        split
        · show (if n / 2 < 0 then -(n / 2) else n / 2) ≤ 6 ∧ (1 : Int) ≤ 4
          split <;> omega
        · show (if n < 0 then -n else n) ≤ 6 ∧ (2 : Int) ≤ 4
          split <;> omega
      refine ⟨rfl, ifT rfl ⟨_, rfl, _, rfl, _, _, rfl, rfl, _, rfl, ifT (decide_eq_true hf.1) ⟨_, rfl, _, _, rfl, rfl, ?_⟩⟩⟩
      rw [decide_eq_true hf.2]
      exact hp.got hL hl s hle (lt_line (by omega)) (.bl true)
    · obtain ⟨acc, hl, hi⟩ := hi
      refine ⟨L, (List.range xs.length).map (fun _ => true), rfl, ?_, ?_⟩
      · rw [hi.trues] at hl
        exact SqL.of hl
      · rw [all_true]
        exact q _ (s1.trans s)
def sp_check_rows (K : PySem.W.Frag) : Sp := fun vs H Q _ => ∃ x y, vs = [x, y] ∧ ∃ (b : Nat) (g : Gd), x = .int (b : Nat) ∧ Is K H y (rws g) ∧ OkG b g ∧ ∀ H', Same H H' → Q .non H'
abbrev n_check_rows : List Str := ["bases", "rows", "i", "row", "j", "item"]
theorem sc_check_rows : FnScope n_check_rows ["bases", "rows"] (defScope s_check_rows) := ⟨rfl, rfl, rfl, by decide +kernel, rfl, by decide +kernel, by decide +kernel⟩
theorem ok_check_rows (T : Txt K mg) : Ok P w K mg base "check_rows" ["bases", "rows"] 5 (sp_check_rows K) := by
  refine T.x_check_rows.ok sc_check_rows (fun _ _ _ _ _ _ us hl => match us, hl with | [_, _], _ => rfl) (fun vs H Q E h => by obtain ⟨_, _, rfl, _⟩ := h; rfl) (fun f cdv A outer s H vs Q E hr h => ?_)
  obtain ⟨x, y, rfl, b, g, rfl, hy, ok, q⟩ := h
  obtain ⟨a, xs, rfl, ht, ha⟩ := hy.tup_ex
  have hx : xs.length = g.length := by rw [ha.length, List.length_map]
  refine ⟨_, (pss_cons (ps_for PassesOwn.never rfl (pi_enumT rfl T.b_enumerate (pa_cons (pv 1) pa_nil)) (by refine pg2 (i := 2) (j := 3) K rfl sc_check_rows.nd ?_ ?_ ?_ ?_ ?_ ?_ ?_ <;> first | rfl | exact .inl rfl | exact .inr rfl)
      (pss_one (ps_if (PW.pt (pw_or (pt_not (pt_val (pc (ok_is_part T) hr rfl (pa_cons (pv 3) pa_nil)))) (pw_or1 (pt_cmpR op_ne (pe_callB call_lenO (by rfl) T.b_len bt_len (pa_cons (pv 3) pa_nil)) (pe_callB call_lenO (by rfl) T.b_len bt_len (pa_cons (pe_ix ix_tup (pv 1) pe_int (fun _ _ => rfl)) pa_nil)) (nomark _)))))
        (pss_one ps_never)
        pss_nil)))
    (pss_one (ps_for PassesOwn.never rfl (pi_enumT rfl T.b_enumerate (pa_cons (pv 1) pa_nil)) (by refine pg2 (i := 2) (j := 3) K rfl sc_check_rows.nd ?_ ?_ ?_ ?_ ?_ ?_ ?_ <;> first | rfl | exact .inl rfl | exact .inr rfl)
      (pss_one (ps_for PassesOwn.never rfl (pi_enumT rfl T.b_enumerate (pa_cons (pv 3) pa_nil)) (by refine pg2 (i := 4) (j := 5) K rfl sc_check_rows.nd ?_ ?_ ?_ ?_ ?_ ?_ ?_ <;> first | rfl | exact .inl rfl | exact .inr rfl)
        (pss_one (ps_if (pt_not (pt_val (pc (ok_is_cell T) hr rfl (pa_cons (pv 0) (pa_cons (pv 5) pa_nil)))))
          (pss_one ps_never)
          pss_nil))))))), ?_⟩
  dsimp only [tVar, tC, tAdd, tSub, tMul, t2I, tCmp, tIsN, tNotN, tB, tAnd, tOr, tNot, tAndV, tOrV, tNotV, tIf, tSeq, tNext, tDrop, tRet, tRetN, tIfS, tAsg, tAug, tPar, gName, gNil, gCons, gSub, tOp, tUn, tTest, tChain, tCons, tNil, tTup, tLst, tCall, tCB, tMake, tFld, sFld, tNoPart, tPart, tSl, tBM, tBM0, rI0, rI, tYes, Cx.nox, Cx.blk, cxOf, List.nil_append, List.cons_append]
  refine forF (B := H) (feedET ht) (fun R r => ⟨_, rfl, a, xs, rfl, ht, r⟩) (fun i σ H' => (∃ y2 y3 y4 y5, σ = [some (.int (b : Nat)), some (.ref a), y2, y3, y4, y5]) ∧ Same H H') ⟨⟨_, _, _, _, rfl⟩, Same.refl _⟩ (fun _ _ _ h => h.2) (fun i x σ H1 H2 hi hP s it => ?_) (fun σ H1 hP => ?_)
  · obtain ⟨⟨y2, y3, y4, y5, rfl⟩, s1⟩ := hP
    obtain ⟨T, v, rfl, e1, e2⟩ := it
    obtain ⟨r, hr1, hv⟩ := ha.getM' e1
    have hv := hv.same (s1.trans s)
    refine gPair e2 ?_
    dsimp only [tVar, tC, tAdd, tSub, tMul, t2I, tCmp, tIsN, tNotN, tB, tAnd, tOr, tNot, tAndV, tOrV, tNotV, tIf, tSeq, tNext, tDrop, tRet, tRetN, tIfS, tAsg, tAug, tPar, gName, gNil, gCons, gSub, tOp, tUn, tTest, tChain, tCons, tNil, tTup, tLst, tCall, tCB, tMake, tFld, sFld, tNoPart, tPart, tSl, tBM, tBM0, rI0, rI, tYes, Cx.nox, Cx.blk, cxOf, List.nil_append, List.cons_append]
    have hrl : r.length = g.length := ok.sq r (List.mem_of_getElem? hr1)
    have hl1 := ok.n1
    have hl2 := ok.n2
    have hrm : (r.map cel).length = g.length := by rw [List.length_map, hrl]
    refine ⟨_, rfl, _, rfl, _, hv, by rw [hrm]; exact hl1, by rw [hrm]; exact hl2, _, rfl, ?_⟩
    refine ifF rfl ⟨_, rfl, _, _, rfl, hv.len, _, rfl, ?_⟩
    have hr0 : 0 < g.length := ok.n1
    refine r_ixT (j := 0) (ds := g.map row) (hy.same (s1.trans s)) rfl (by unfold ixN; rw [if_pos (by decide), if_pos (by rw [List.length_map]; omega)]; rfl) (by rw [List.getElem?_map, List.getElem?_eq_getElem hr0]; rfl) fun v0 hv0 => ?_
    refine ⟨_, _, rfl, hv0.len, rfl, _, rfl, ?_⟩
    rw [List.length_map, List.length_map, hrl, ok.sq g[0] (List.getElem_mem hr0)]
    exact ifF (by simp) ⟨⟨_, _, _, _, rfl⟩, s1.trans s⟩
  · obtain ⟨⟨y2, y3, y4, y5, rfl⟩, s1⟩ := hP
    dsimp only [tVar, tC, tAdd, tSub, tMul, t2I, tCmp, tIsN, tNotN, tB, tAnd, tOr, tNot, tAndV, tOrV, tNotV, tIf, tSeq, tNext, tDrop, tRet, tRetN, tIfS, tAsg, tAug, tPar, gName, gNil, gCons, gSub, tOp, tUn, tTest, tChain, tCons, tNil, tTup, tLst, tCall, tCB, tMake, tFld, sFld, tNoPart, tPart, tSl, tBM, tBM0, rI0, rI, tYes, Cx.nox, Cx.blk, cxOf, List.nil_append, List.cons_append]
    refine forF (B := H) (feedET ht) (fun R r => ⟨_, rfl, a, xs, rfl, SqT.same s1 ht, r⟩) (fun i σ H' => (∃ y2 y3 y4 y5, σ = [some (.int (b : Nat)), some (.ref a), y2, y3, y4, y5]) ∧ Same H H') ⟨⟨_, _, _, _, rfl⟩, s1⟩ (fun _ _ _ h => h.2) (fun i x σ H1 H2 hi hP s it => ?_) (fun σ H1 hP => q _ hP.2)
    obtain ⟨⟨y2, y3, y4, y5, rfl⟩, s1⟩ := hP
    obtain ⟨T, v, rfl, e1, e2⟩ := it
    obtain ⟨r, hr1, hv⟩ := ha.getM' e1
    have hv := hv.same (s1.trans s)
    refine gPair e2 ?_
    dsimp only [tVar, tC, tAdd, tSub, tMul, t2I, tCmp, tIsN, tNotN, tB, tAnd, tOr, tNot, tAndV, tOrV, tNotV, tIf, tSeq, tNext, tDrop, tRet, tRetN, tIfS, tAsg, tAug, tPar, gName, gNil, gCons, gSub, tOp, tUn, tTest, tChain, tCons, tNil, tTup, tLst, tCall, tCB, tMake, tFld, sFld, tNoPart, tPart, tSl, tBM, tBM0, rI0, rI, tYes, Cx.nox, Cx.blk, cxOf, List.nil_append, List.cons_append]
    obtain ⟨a2, zs, rfl, ht2, ha2⟩ := hv.tup_ex
    refine forF (B := H2) (feedET ht2) (fun R r => ⟨_, rfl, a2, zs, rfl, ht2, r⟩) (fun i' σ H' => (∃ y2 y4 y5, σ = [some (.int (b : Nat)), some (.ref a), y2, some (.ref a2), y4, y5]) ∧ Same H2 H') ⟨⟨_, _, _, rfl⟩, Same.refl _⟩ (fun _ _ _ h => h.2) (fun i' x σ H3 H4 hi hP s' it => ?_) (fun σ H1 hP => ?_)
    · obtain ⟨⟨y2, y4, y5, rfl⟩, s3⟩ := hP
      obtain ⟨T', v', rfl, e1', e2'⟩ := it
      obtain ⟨c, hc1, hv'⟩ := ha2.getM' e1'
      refine gPair e2' ?_
      dsimp only [tVar, tC, tAdd, tSub, tMul, t2I, tCmp, tIsN, tNotN, tB, tAnd, tOr, tNot, tAndV, tOrV, tNotV, tIf, tSeq, tNext, tDrop, tRet, tRetN, tIfS, tAsg, tAug, tPar, gName, gNil, gCons, gSub, tOp, tUn, tTest, tChain, tCons, tNil, tTup, tLst, tCall, tCB, tMake, tFld, sFld, tNoPart, tPart, tSl, tBM, tBM0, rI0, rI, tYes, Cx.nox, Cx.blk, cxOf, List.nil_append, List.cons_append]
      refine ⟨_, rfl, _, rfl, _, _, rfl, b, c, rfl, ok.b2, hv'.same (s3.trans s'), ok.ok r (List.mem_of_getElem? hr1) c (List.mem_of_getElem? hc1), fun H5 s5 => ⟨_, rfl, ?_⟩⟩
      exact ifF rfl ⟨⟨_, _, _, rfl⟩, (s3.trans s').trans s5⟩
    · obtain ⟨⟨y2, y4, y5, rfl⟩, s3⟩ := hP
      exact ⟨⟨_, _, _, _, rfl⟩, (s1.trans s).trans s3⟩
/-- a grid -/
def IsG (K : PySem.W.Frag) (H : Hp) (v : V) (b : Nat) (g : Gd) : Prop := ∃ p dx r, v = .ref p ∧ H p = some (.ins (He.ga K "Grid") dx [("bases", .int (b : Nat)), ("rows", r)]) ∧ Is K H r (rws g)
theorem IsG.same {H H' : Hp} {v : V} {b : Nat} {g : Gd} (s : Same H H') (h : IsG K H v b g) : IsG K H' v b g := let ⟨p, dx, r, e, h1, h2⟩ := h; ⟨p, dx, r, e, s _ _ h1, h2.same s⟩
def sp_Grid_init (K : PySem.W.Frag) : Sp := fun vs H Q _ => ∃ x y z, vs = [x, y, z] ∧ ∃ (p dx : Addr) (b : Nat) (g : Gd), x = .ref p ∧ H p = some (.ins (He.ga K "Grid") dx []) ∧ y = .int (b : Nat) ∧ Is K H z (rws g) ∧ OkG b g ∧
  ∀ H', (∀ a o, a ≠ p → H a = some o → H' a = some o) → H' p = some (.ins (He.ga K "Grid") dx [("bases", .int (b : Nat)), ("rows", z)]) → Q .non H'
abbrev n_Grid_init : List Str := ["self", "bases", "rows"]
theorem sc_Grid_init : FnScope n_Grid_init ["self", "bases", "rows"] (defScope s_Grid_init) := ⟨rfl, rfl, rfl, by decide +kernel, rfl, by decide +kernel, by decide +kernel⟩
theorem ok_Grid_init (T : Txt K mg) : ∃ fd, FnOk P w K mg base CX0 6 (He.ma K (He.ga K "Grid") "__init__") fd ["self", "bases", "rows"] (sp_Grid_init K) ∧ Binds K fd ["self", "bases", "rows"] [] := by
  obtain ⟨fd, F⟩ := T.x_Grid_init
  refine ⟨fd, ?_, F.bindsN fun _ _ _ _ _ _ us hl => match us, hl with | [_, _, _], _ => rfl⟩
  refine F.ok sc_Grid_init (fun vs H Q E h => by obtain ⟨_, _, _, rfl, _⟩ := h; rfl) (fun cdv A outer s H vs Q E hr h => ?_)
  obtain ⟨x, y, z, rfl, p, dx, b, g, rfl, hp, rfl, hz, ok, q⟩ := h
  suffices hh : ∃ t, PSs (cxOf CX0 P w K mg base n_Grid_init "Grid.__init__" (defScope s_Grid_init) (He.ma K (He.ga K "Grid") "__init__") cdv A outer s H E).nox (defBody s_Grid_init) t ∧ t { nx := fun _ H' => Q .non H', rt := Q } (start n_Grid_init [.ref p, .int (b : Nat), z]) H by
    obtain ⟨t, h1, h2⟩ := hh
    exact ⟨t, h1.nox, h2⟩
  refine ⟨_, (pss_cons (ps_if (pt_not (pt_val (pc (ok_is_within T) hr rfl (pa_cons (pv 1) (pa_cons pe_int (pa_cons (pe_gi T.e_MOST_BASES rfl) pa_nil))))))
      (pss_one ps_never)
      pss_nil)
    (pss_cons (ps_if (pt_not (pt_val (pc (ok_is_part T) hr rfl (pa_cons (pv 2) pa_nil))))
      (pss_one ps_never)
      pss_nil)
    (pss_cons (ps_expr (pc (ok_check_rows T) hr rfl (pa_cons (pv 1) (pa_cons (pv 2) pa_nil))))
    (pss_cons (ps_fld (pv 0) (pv 1) rfl)
    (pss_one (ps_fld (pv 0) (pv 2) rfl)))))), ?_⟩
  dsimp only [tVar, tC, tAdd, tSub, tMul, t2I, tCmp, tIsN, tNotN, tB, tAnd, tOr, tNot, tAndV, tOrV, tNotV, tIf, tSeq, tNext, tDrop, tRet, tRetN, tIfS, tAsg, tAug, tPar, gName, gNil, gCons, gSub, tOp, tUn, tTest, tChain, tCons, tNil, tTup, tLst, tCall, tCB, tMake, tFld, sFld, tNoPart, tPart, tSl, tBM, tBM0, rI0, rI, tYes, Cx.nox, Cx.blk, cxOf, List.nil_append, List.cons_append]
  have hb1 := ok.b1
  have hb2 := ok.b2
  refine ⟨_, rfl, _, _, _, rfl, _, _, _, rfl, rfl, rfl, _, rfl, ifF (by simp; omega) ?_⟩
  have hl1 := ok.n1
  have hl2 := ok.n2
  refine ⟨_, rfl, _, rfl, g.map row, hz, by rw [List.length_map]; exact ok.n1, by rw [List.length_map]; exact ok.n2, _, rfl, ifF rfl ?_⟩
  refine ⟨_, rfl, _, rfl, _, _, rfl, b, g, rfl, hz, ok, fun H1 s1 => ?_⟩
  refine ⟨_, rfl, _, rfl, p, _, dx, _, rfl, s1 _ _ hp, T.cls, T.nBases, by decide, ?_⟩
  refine ⟨_, rfl, _, rfl, p, _, dx, _, rfl, upd_same, T.cls, T.nRows, by show 1 < 1000; decide, ?_⟩
  refine q _ (fun a o ne e => ?_) ?_
  · rw [upd_ne ne, upd_ne ne]
    exact s1 _ _ e
  · rw [upd_same]
    rfl
/-- Grid(..): what the making asks -/
theorem r_grid {H : Hp} {Q : VK} {E : XK} {z : V} {b : Nat} {g : Gd} (hz : Is K H z (rws g)) (ok : OkG b g) (q : ∀ H' v, Same H H' → IsG K H' v b g → Q v H') :
    ∀ x dx, H x = none → H dx = none → dx ≠ x → sp_Grid_init K [.ref x, .int (b : Nat), z] (upd (upd H dx (.own x)) x (.ins (He.ga K "Grid") dx [])) (fun v H2 => v = .non ∧ Q (.ref x) H2) E := by
  intro x dx nx nd ne
  have s1 : Same H (upd (upd H dx (.own x)) x (.ins (He.ga K "Grid") dx [])) := ((same_upd nd).out nx)
  refine ⟨_, _, _, rfl, x, dx, b, g, rfl, upd_same, rfl, hz.same s1, ok, fun H' k e => ⟨rfl, ?_⟩⟩
  have s2 : Same H H' := fun a o h => k a o (ne_of_none h nx) (s1 _ _ h)
  exact q _ _ s2 ⟨x, dx, z, rfl, e, hz.same s2⟩
end
section
variable {X : Cx} {j : Nat} {p pos : Pos} {e : Expr} {es : List Expr} {t : TA}
theorem pmk (O : ∃ fd, FnOk X.prog X.w X.K X.mg X.base CX0 6 (He.ma X.K (He.ga X.K "Grid") "__init__") fd ["self", "bases", "rows"] (sp_Grid_init X.K) ∧ Binds X.K fd ["self", "bases", "rows"] []) (T : Txt X.K X.mg) (hr : Room j X.A) (hg : Gl X "Grid") (ha : PA X (e :: es) t) (hk : 7 ≤ j := by decide)
    (he : starEach (e :: es) X.env = (false, eval e X.env) :: starEach es X.env := by rfl) (hpl : (backTo pos (starEach es X.env)).any (·.1) = false := by rfl) :
    PE X (.Call (.Name "Grid" p) (e :: es) [] pos) (tMake (He.ga X.K "Grid") (sp_Grid_init X.K) [] E0 t) := by
  obtain ⟨fd, F, b⟩ := O
  exact pe_make T.mkr F (hr.mono hk) hg T.g_Grid b .nil pass0 ha (by decide) he hpl
end
section
variable {P : Program} {w : World} {K : PySem.W.Frag} {mg : Str → Option Value} {base : Heap}
def sp_sizes_of (K : PySem.W.Frag) : Sp := fun vs H Q _ => ∃ x, vs = [x] ∧ ∃ (b : Nat) (g : Gd), IsG K H x b g ∧ OkG b g ∧ ∀ H' v, Same H H' → Is K H' v (pr ((g.length : Nat), (g.length : Nat))) → Q v H'
theorem rws0 {g : Gd} {b : Nat} (ok : OkG b g) {H : Hp} {x : V} {Q : VK} (hx : Is K H x (rws g)) (q : ∀ v, LenO K H v g.length → Q v H) : rIxT K x (.int 0) H Q := by
  have hr0 : 0 < g.length := ok.n1
  refine r_ixT (j := 0) (ds := g.map row) hx rfl (by unfold ixN; rw [if_pos (by decide), if_pos (by rw [List.length_map]; omega)]; rfl) (by rw [List.getElem?_map, List.getElem?_eq_getElem hr0]; rfl) fun v hv => q v ?_
  have := hv.len
  rwa [List.length_map, ok.sq g[0] (List.getElem_mem hr0)] at this
theorem rwsLen {g : Gd} {H : Hp} {x : V} (hx : Is K H x (rws g)) : LenO K H x g.length := by
  have := hx.len
  rwa [List.length_map] at this
abbrev n_sizes_of : List Str := ["grid"]
theorem sc_sizes_of : FnScope n_sizes_of ["grid"] (defScope s_sizes_of) := ⟨rfl, rfl, rfl, by decide +kernel, rfl, by decide +kernel, by decide +kernel⟩
theorem ok_sizes_of (T : Txt K mg) : Ok P w K mg base "sizes_of" ["grid"] 1 (sp_sizes_of K) := by
  refine T.x_sizes_of.ok sc_sizes_of (fun _ _ _ _ _ _ us hl => match us, hl with | [_], _ => rfl) (fun vs H Q E h => by obtain ⟨_, rfl, _⟩ := h; rfl) (fun f cdv A outer s H vs Q E hr h => ?_)
  obtain ⟨_, rfl, b, g, ⟨a, dx, r, rfl, hp, hr⟩, ok, q⟩ := h
  refine ⟨_, (pss_one (ps_ret (pe_tup (pa_cons (pe_callB call_lenO (by rfl) T.b_len bt_len (pa_cons (pe_fld (pv 0) rfl) pa_nil)) (pa_cons (pe_callB call_lenO (by rfl) T.b_len bt_len (pa_cons (pe_ix ix_tup (pe_fld (pv 0) rfl) pe_int (fun _ _ => rfl)) pa_nil)) pa_nil))))), ?_⟩
  dsimp only [tVar, tC, tAdd, tSub, tMul, t2I, tCmp, tIsN, tNotN, tB, tAnd, tOr, tNot, tAndV, tOrV, tNotV, tIf, tSeq, tNext, tDrop, tRet, tRetN, tIfS, tAsg, tAug, tPar, gName, gNil, gCons, gSub, tOp, tUn, tTest, tChain, tCons, tNil, tTup, tLst, tCall, tCB, tMake, tFld, sFld, tNoPart, tPart, tSl, tBM, tBM0, rI0, rI, tYes, Cx.nox, Cx.blk, cxOf, List.nil_append, List.cons_append]
  refine ⟨_, rfl, a, _, dx, _, _, rfl, hp, T.cls, T.nRows, rfl, _, _, rfl, rwsLen hr, _, rfl, a, _, dx, _, _, rfl, hp, T.cls, T.nRows, rfl, ?_⟩
  exact rws0 ok hr fun v hv => ⟨_, _, rfl, hv, two_le, fun p np => q _ _ (same_upd np) (is_pair np)⟩
def sp_check_square_grid (K : PySem.W.Frag) : Sp := fun vs H Q _ => ∃ x, vs = [x] ∧ ∃ (b : Nat) (g : Gd), IsG K H x b g ∧ OkG b g ∧ Q .non H
abbrev n_check_square_grid : List Str := ["grid"]
theorem sc_check_square_grid : FnScope n_check_square_grid ["grid"] (defScope s_check_square_grid) := ⟨rfl, rfl, rfl, by decide +kernel, rfl, by decide +kernel, by decide +kernel⟩
theorem ok_check_square_grid (T : Txt K mg) : Ok P w K mg base "check_square_grid" ["grid"] 1 (sp_check_square_grid K) := by
  refine T.x_check_square_grid.ok sc_check_square_grid (fun _ _ _ _ _ _ us hl => match us, hl with | [_], _ => rfl) (fun vs H Q E h => by obtain ⟨_, rfl, _⟩ := h; rfl) (fun f cdv A outer s H vs Q E hr h => ?_)
  obtain ⟨_, rfl, b, g, ⟨a, dx, r, rfl, hp, hr⟩, ok, q⟩ := h
  refine ⟨_, (pss_one (ps_if (pt_cmpR op_ne (pe_callB call_lenO (by rfl) T.b_len bt_len (pa_cons (pe_fld (pv 0) rfl) pa_nil)) (pe_callB call_lenO (by rfl) T.b_len bt_len (pa_cons (pe_ix ix_tup (pe_fld (pv 0) rfl) pe_int (fun _ _ => rfl)) pa_nil)) (nomark _))
      (pss_one ps_never)
      pss_nil)), ?_⟩
  dsimp only [tVar, tC, tAdd, tSub, tMul, t2I, tCmp, tIsN, tNotN, tB, tAnd, tOr, tNot, tAndV, tOrV, tNotV, tIf, tSeq, tNext, tDrop, tRet, tRetN, tIfS, tAsg, tAug, tPar, gName, gNil, gCons, gSub, tOp, tUn, tTest, tChain, tCons, tNil, tTup, tLst, tCall, tCB, tMake, tFld, sFld, tNoPart, tPart, tSl, tBM, tBM0, rI0, rI, tYes, Cx.nox, Cx.blk, cxOf, List.nil_append, List.cons_append]
  refine ⟨_, rfl, a, _, dx, _, _, rfl, hp, T.cls, T.nRows, rfl, _, _, rfl, rwsLen hr, _, rfl, a, _, dx, _, _, rfl, hp, T.cls, T.nRows, rfl, ?_⟩
  exact rws0 ok hr fun v hv => ⟨_, _, rfl, hv, rfl, _, rfl, ifF (by simp) q⟩
def sp_with_cell (K : PySem.W.Frag) : Sp := fun vs H Q _ => ∃ x y z t, vs = [x, y, z, t] ∧ ∃ (g : Gd) (i j : Nat) (r : List (Option Ut)) (c : Option Ut), Is K H x (rws g) ∧ y = .int (i : Nat) ∧ z = .int (j : Nat) ∧ Is K H t (cel c) ∧ g[i]? = some r ∧ j < r.length ∧ g.length ≤ 10 ∧ r.length ≤ 10 ∧
  ∀ H' v, Same H H' → Is K H' v (rws (g.set i (r.set j c))) → Q v H'
abbrev n_with_cell : List Str := ["rows", "i", "j", "thing", "row"]
theorem sc_with_cell : FnScope n_with_cell ["rows", "i", "j", "thing"] (defScope s_with_cell) := ⟨rfl, rfl, rfl, by decide +kernel, rfl, by decide +kernel, by decide +kernel⟩
theorem ok_with_cell (T : Txt K mg) : Ok P w K mg base "with_cell" ["rows", "i", "j", "thing"] 1 (sp_with_cell K) := by
  refine T.x_with_cell.ok sc_with_cell (fun _ _ _ _ _ _ us hl => match us, hl with | [_, _, _, _], _ => rfl) (fun vs H Q E h => by obtain ⟨_, _, _, _, rfl, _⟩ := h; rfl) (fun f cdv A outer s H vs Q E hr h => ?_)
  obtain ⟨x, _, _, t, rfl, g, i, j, r, c, hx, rfl, rfl, ht, hg, hj, hz1, hz2, q⟩ := h
  refine ⟨_, (pss_cons (ps_set (i := 4) sc_with_cell.nd rfl (.inl rfl) (pe_op op_catA (pe_op op_catA (pe_slice sl_tupA (pe_ix ix_tup (pv 0) (pv 1) (fun _ _ => rfl)) po_none (po_some (pv 2))) (pe_tup (pa_cons (pv 3) pa_nil))) (pe_slice sl_tupA (pe_ix ix_tup (pv 0) (pv 1) (fun _ _ => rfl)) (po_some (pe_op op_add (pv 2) pe_int)) po_none)))
    (pss_one (ps_ret (pe_op op_catA (pe_op op_catA (pe_slice sl_tupA (pv 0) po_none (po_some (pv 1))) (pe_tup (pa_cons (pv 4) pa_nil))) (pe_slice sl_tupA (pv 0) (po_some (pe_op op_add (pv 1) pe_int)) po_none))))), ?_⟩
  dsimp only [tVar, tC, tAdd, tSub, tMul, t2I, tCmp, tIsN, tNotN, tB, tAnd, tOr, tNot, tAndV, tOrV, tNotV, tIf, tSeq, tNext, tDrop, tRet, tRetN, tIfS, tAsg, tAug, tPar, gName, gNil, gCons, gSub, tOp, tUn, tTest, tChain, tCons, tNil, tTup, tLst, tCall, tCB, tMake, tFld, sFld, tNoPart, tPart, tSl, tBM, tBM0, rI0, rI, tYes, Cx.nox, Cx.blk, cxOf, List.nil_append, List.cons_append]
  have hi : i < g.length := (List.getElem?_eq_some_iff.mp hg).1
  have hgr : (g.map row)[i]? = some (row r) := by rw [List.getElem?_map, hg]; rfl
  have hjc : j ≤ (r.map cel).length := by rw [List.length_map]; omega
  have hjd : j + 1 ≤ (r.map cel).length := by rw [List.length_map]; omega
  have hic : i ≤ (g.map row).length := by rw [List.length_map]; omega
  have hid : i + 1 ≤ (g.map row).length := by rw [List.length_map]; omega
  have l1 := le_line (n := 1000) (by omega)
  refine ⟨_, rfl, _, rfl, r_ixTn hx rfl hgr fun v1 h1 => ⟨_, rfl, _, rfl, ?_⟩⟩
  refine r_sl h1 fun H1 v2 s1 h2 => ⟨_, rfl, one_le, fun p1 n1 => ?_⟩
  rw [cut_take _ hjc] at h2
  have s1' := s1.new (o := .tup [t]) n1
  refine r_cat (h2.same (same_upd n1)) (Is.mk n1 (.one (ht.same s1))) (le_line (by simp; omega)) fun H2 v3 s2 h3 => ?_
  have s2' := s1'.trans s2
  refine ⟨_, rfl, _, rfl, r_ixTn (hx.same s2') rfl hgr fun v4 h4 => ⟨_, rfl, _, _, rfl, rfl, _, rfl, ?_⟩⟩
  refine r_sl (lo := some ((j + 1 : Nat) : Int)) h4 fun H3 v5 s3 h5 => ?_
  rw [cut_drop _ hjd] at h5
  refine r_cat (h3.same s3) h5 (le_line (by simp; omega)) fun H4 v6 s4 h6 => ?_
  rw [set_parts _ _ _ (by rw [List.length_map]; exact hj)] at h6
  have s4' := (s2'.trans s3).trans s4
  refine ⟨_, rfl, _, rfl, _, rfl, ?_⟩
  refine r_sl (hx.same s4') fun H5 v7 s5 h7 => ⟨_, rfl, one_le, fun p2 n2 => ?_⟩
  rw [cut_take _ hic] at h7
  refine r_cat (h7.same (same_upd n2)) (Is.mk n2 (.one (h6.same s5))) (le_line (by simp; omega)) fun H6 v8 s6 h8 => ?_
  have s6' := ((s4'.trans s5).new (o := .tup [v6]) n2).trans s6
  refine ⟨_, rfl, _, rfl, _, _, rfl, rfl, _, rfl, ?_⟩
  refine r_sl (lo := some ((i + 1 : Nat) : Int)) (hx.same s6') fun H7 v9 s7 h9 => ?_
  rw [cut_drop _ hid] at h9
  refine r_cat (h8.same s7) h9 (le_line (by simp; omega)) fun H8 v s8 h10 => ?_
  rw [set_parts _ _ _ (by rw [List.length_map]; exact hi)] at h10
  refine q H8 v ((s6'.trans s7).trans s8) ?_
  have e : rws (g.set i (r.set j c)) = .tuple ((g.map row).set i (.tuple ((r.map cel).set j (cel c)))) := by
    unfold rws
    rw [List.map_set]
    unfold row
    rw [List.map_set]
  rw [e]
  exact h10
end
end UG
end
section
/-! Unitgrids: units as vectors, grids and ties as functions, lists of lists in the heap. -/
namespace UG
open PySem PySem.Spec PyProof.Rows L2 RZ UM
/-! ### vectors -/
def vec (b : Nat) (f : Nat → Int) : Ut := (List.range b).map f
theorem vec_len (b : Nat) (f : Nat → Int) : (vec b f).length = b := by unfold vec; simp
theorem vec_at {b k : Nat} (f : Nat → Int) (h : k < b) : (vec b f).getD k 0 = f k := by
  unfold vec
  rw [List.getD_eq_getElem?_getD, List.getElem?_map, List.getElem?_range h]
  rfl
theorem vec_congr {b : Nat} {f g : Nat → Int} (h : ∀ k, k < b → f k = g k) : vec b f = vec b g := by
  unfold vec
  exact List.map_congr_left fun k hk => h k (List.mem_range.mp hk)
theorem vec_iff {b : Nat} {f g : Nat → Int} : vec b f = vec b g ↔ ∀ k, k < b → f k = g k :=
  ⟨fun e k hk => by rw [← vec_at f hk, e, vec_at g hk], vec_congr⟩
theorem vec_of {b : Nat} {u : Ut} (h : u.length = b) : u = vec b fun k => u.getD k 0 := by
  apply List.ext_getElem?
  intro k
  unfold vec
  rw [List.getElem?_map]
  by_cases hk : k < b
  · rw [List.getElem?_range hk, List.getElem?_eq_getElem (by omega)]
    simp [List.getD_eq_getElem?_getD, List.getElem?_eq_getElem (show k < u.length by omega)]
  · rw [List.getElem?_eq_none_iff.mpr (by omega), List.getElem?_eq_none_iff.mpr (by simp; omega)]
    rfl
theorem zip_vec (op : Int → Int → Int) (b : Nat) (f g : Nat → Int) : List.zipWith op (vec b f) (vec b g) = vec b fun k => op (f k) (g k) := by
  unfold vec
  rw [List.zipWith_map]
  simp [List.zipWith_self]
theorem ua_vec (b : Nat) (f g : Nat → Int) : ua (vec b f) (vec b g) = vec b fun k => f k + g k := zip_vec (· + ·) b f g
theorem us_vec (b : Nat) (f g : Nat → Int) : us (vec b f) (vec b g) = vec b fun k => f k - g k := zip_vec (· - ·) b f g
theorem u0_vec (b : Nat) : u0 b = vec b fun _ => 0 := by
  unfold u0 vec
  rw [List.map_const', List.length_range]
/-! ### grids as functions -/
def ce (g : Gd) (i j : Nat) : Option Ut := (g.getD i []).getD j none
/-- one exponent of a cell -/
def ex (g : Gd) (k i j : Nat) : Int := ((ce g i j).getD []).getD k 0
/-- the cell stands -/
def Ed (n : Nat) (g : Gd) (i j : Nat) : Prop := i < n ∧ j < n ∧ ∃ u, ce g i j = some u
structure Sq (n b : Nat) (g : Gd) : Prop where
  num : g.length = n
  sq : ∀ r ∈ g, r.length = n
  ok : ∀ i j u, ce g i j = some u → u.length = b
theorem Sq.row {n b : Nat} {g : Gd} (h : Sq n b g) {i : Nat} (hi : i < n) : ∃ r, g[i]? = some r ∧ r.length = n ∧ g.getD i [] = r := by
  have hi : i < g.length := by rw [h.num]; exact hi
  exact ⟨g[i], List.getElem?_eq_getElem hi, h.sq _ (List.getElem_mem hi), by rw [List.getD_eq_getElem?_getD, List.getElem?_eq_getElem hi]; rfl⟩
theorem Sq.cel {n b : Nat} {g : Gd} (h : Sq n b g) {i j : Nat} (hi : i < n) (hj : j < n) : ∃ r, g[i]? = some r ∧ r.length = n ∧ r[j]? = some (ce g i j) := by
  obtain ⟨r, h1, h2, h3⟩ := h.row hi
  refine ⟨r, h1, h2, ?_⟩
  unfold ce
  rw [h3, List.getD_eq_getElem?_getD, List.getElem?_eq_getElem (by omega)]
  rfl
theorem OkG.at {b : Nat} {g : Gd} (h : OkG b g) {i j : Nat} {u : Ut} (e : ce g i j = some u) : OkU b u := by
  unfold ce at e
  rw [List.getD_eq_getElem?_getD, List.getD_eq_getElem?_getD] at e
  cases q : g[i]? with
  | none => rw [q] at e; simp at e
  | some r =>
    rw [q] at e
    simp only [Option.getD_some] at e
    cases q2 : r[j]? with
    | none => rw [q2] at e; simp at e
    | some c =>
      rw [q2] at e
      simp only [Option.getD_some] at e
      exact h.ok r (List.mem_of_getElem? q) c (List.mem_of_getElem? q2) u e
theorem OkG.sqr {b : Nat} {g : Gd} (h : OkG b g) : Sq g.length b g := ⟨rfl, h.sq, fun i j u e => (h.at e).1⟩
theorem ex_vec {n b : Nat} {g : Gd} (h : Sq n b g) {i j : Nat} {u : Ut} (e : ce g i j = some u) : u = vec b fun k => ex g k i j := by
  refine (vec_of (h.ok _ _ _ e)).trans (vec_congr fun k _ => ?_)
  unfold ex
  rw [e]
  rfl
/-! ### numbers of places -/
def nat (i : Nat) : PyData := .int (i : Nat)
def tn (l : List Nat) : PyData := .tuple (l.map nat)
def vn (i : Nat) : V := .int (i : Nat)
theorem nat_inj {i j : Nat} (h : PyData.int ((i : Nat) : Int) = .int ((j : Nat) : Int)) : i = j := by injection h with h; omega
section
variable {K : PySem.W.Frag} {H H' : Hp}
theorem Is.nat_eq {v : V} {i : Nat} (h : Is K H v (nat i)) : v = .int (i : Nat) := h.int_eq
theorem IsA.nats : ∀ l : List Nat, IsA K H (l.map vn) (l.map nat)
  | [] => .nil
  | n :: ns => .cons (.int _) (IsA.nats ns)
theorem IsA.nats_eq : ∀ {vs : List V} {l : List Nat}, IsA K H vs (l.map nat) → vs = l.map vn
  | _, [], .nil => rfl
  | _, n :: ns, .cons h a => by rw [h.nat_eq, IsA.nats_eq a]; rfl
/-! ### lists of lists -/
def IsLL (K : PySem.W.Frag) (H : Hp) (l : Addr) (rows : List (List PyData)) : Prop := ∃ ls : List Addr, H l = some (.lst (ls.map V.ref)) ∧ ls.length = rows.length ∧ (l :: ls).Nodup ∧ ∀ (i : Nat) a ds, ls[i]? = some a → rows[i]? = some ds → IsL K H a ds
theorem IsLL.same {l : Addr} {rows : List (List PyData)} (s : Same H H') (h : IsLL K H l rows) : IsLL K H' l rows :=
  let ⟨ls, e, h1, h3, h2⟩ := h; ⟨ls, s _ _ e, h1, h3, fun i a ds q r => (h2 i a ds q r).same s⟩
theorem IsLL.len {l : Addr} {rows : List (List PyData)} (h : IsLL K H l rows) : LenO K H (.ref l) rows.length := by
  obtain ⟨ls, e, h1, h3, h2⟩ := h
  have := LenO.l (K := K) e
  rwa [List.length_map, h1] at this
theorem IsLL.at {l : Addr} {rows : List (List PyData)} (h : IsLL K H l rows) {i : Nat} {ds : List PyData} (hi : rows[i]? = some ds) : ∃ a, IsL K H a ds ∧ ∃ xs, H l = some (.lst xs) ∧ xs[i]? = some (.ref a) := by
  obtain ⟨ls, e, h1, h3, h2⟩ := h
  have hlt : i < ls.length := by rw [h1]; exact (List.getElem?_eq_some_iff.mp hi).1
  exact ⟨ls[i], h2 i _ ds (List.getElem?_eq_getElem hlt) hi, _, e, by rw [List.getElem?_map, List.getElem?_eq_getElem hlt]; rfl⟩
theorem IsLL.row_of {l : Addr} {rows : List (List PyData)} (h : IsLL K H l rows) {xs : List V} (e : H l = some (.lst xs)) {i : Nat} {v : V} (hv : xs[i]? = some v) : ∃ a ds, v = .ref a ∧ rows[i]? = some ds ∧ IsL K H a ds := by
  obtain ⟨ls, e', h1, h3, h2⟩ := h
  rw [e'] at e
  cases e
  rw [List.getElem?_map] at hv
  cases q : ls[i]? with
  | none => rw [q] at hv; cases hv
  | some a =>
    rw [q] at hv
    cases hv
    have hlt : i < rows.length := by rw [← h1]; exact (List.getElem?_eq_some_iff.mp q).1
    exact ⟨a, _, rfl, List.getElem?_eq_getElem hlt, h2 i a _ q (List.getElem?_eq_getElem hlt)⟩
theorem IsLL.sq {l : Addr} {rows : List (List PyData)} (h : IsLL K H l rows) : ∃ xs, H l = some (.lst xs) ∧ xs.length = rows.length := let ⟨ls, e, h1, _⟩ := h; ⟨_, e, by rw [List.length_map, h1]⟩
theorem r_ixLL {Q : VK} {x y : V} {l : Addr} {rows : List (List PyData)} {i : Nat} {ds : List PyData} (hx : x = .ref l) (h : IsLL K H l rows) (hy : y = .int (i : Nat)) (hi : rows[i]? = some ds) (q : ∀ a, IsL K H a ds → Q (.ref a) H) : rIxL K x y H Q := by
  obtain ⟨a, ha, xs, e, hx2⟩ := h.at hi
  exact ⟨l, xs, _, _, hx, hy, SqL.of e, atI_nat hx2, q a ha⟩
theorem IsLL.nil {l : Addr} (n : H l = none) : IsLL K (upd H l (.lst [])) l [] := ⟨[], upd_same, rfl, by simp, fun i a ds q => by simp at q⟩
theorem IsLL.ty {l : Addr} {rows : List (List PyData)} (h : IsLL K H l rows) : tyV K "list" (.ref l) H := let ⟨_, e, _⟩ := h; .inl ⟨rfl, _, SqL.of e⟩
theorem IsL.ty {l : Addr} {ds : List PyData} (h : IsL K H l ds) : tyV K "list" (.ref l) H := let ⟨_, e, _⟩ := h; .inl ⟨rfl, _, SqL.of e⟩
/-- the list at f gets the list at l, that is newer -/
theorem IsLL.push {B : Hp} {f l : Addr} {rows : List (List PyData)} {ds : List PyData} {xs : List V} (hB : IsLL K B f rows) (s : Same B H) (nB : B l = none) (hl : IsL K H l ds) (e : H f = some (.lst xs)) :
    xs.length = rows.length ∧ IsLL K (upd H f (.lst (xs ++ [.ref l]))) f (rows ++ [ds]) := by
  obtain ⟨ls, e1, h1, h3, h2⟩ := hB
  have e2 := s _ _ e1
  rw [e] at e2
  cases e2
  have nlf : l ≠ f := fun z => by rw [z, e1] at nB; cases nB
  have there : ∀ a ∈ ls, B a ≠ none := fun a ha z => by
    obtain ⟨i, hi, rfl⟩ := List.mem_iff_getElem.mp ha
    obtain ⟨xs, q, _⟩ := h2 i ls[i] _ (List.getElem?_eq_getElem hi) (List.getElem?_eq_getElem (by omega))
    rw [q] at z
    cases z
  have nl : l ∉ ls := fun z => there l z nB
  rw [List.nodup_cons] at h3
  refine ⟨by rw [List.length_map, h1], ls ++ [l], by rw [upd_same, List.map_append]; rfl, by simp [h1], ?_, fun i a d q r => ?_⟩
  · rw [List.nodup_cons, List.nodup_append]
    refine ⟨by simp [h3.1, Ne.symm nlf], h3.2, by simp, fun a ha c hc => ?_⟩
    simp only [List.mem_singleton] at hc
    subst hc
    exact fun z => nl (z ▸ ha)
  · have tk := Tk.lst (o := .lst (ls.map V.ref ++ [.ref l])) e
    by_cases hi : i < ls.length
    · rw [List.getElem?_append_left hi] at q
      rw [List.getElem?_append_left (by omega)] at r
      have ne : a ≠ f := fun z => h3.1 (z ▸ List.mem_of_getElem? q)
      exact ((h2 i a d q r).same s).ne tk ne
    · rw [List.getElem?_append_right (by omega)] at q
      rw [List.getElem?_append_right (by omega)] at r
      have e0 : i - ls.length = 0 := by
        have := (List.getElem?_eq_some_iff.mp q).1
        simp at this
        omega
      rw [e0] at q
      rw [← h1, e0] at r
      simp only [List.getElem?_cons_zero, Option.some.injEq] at q r
      subst q r
      exact hl.ne tk nlf
theorem r_appLL {Q : VK} {B : Hp} {f l : Addr} {rows : List (List PyData)} {ds : List PyData} (hB : IsLL K B f rows) (s : Same B H) (nB : B l = none) (hl : IsL K H l ds) (hz : rows.length < 1000)
    (q : ∀ H', (∀ B, Same B H → B f = none → Same B H') → IsLL K H' f (rows ++ [ds]) → Q .non H') : rAppend (.ref f) [.ref l] H Q := by
  obtain ⟨xs, e, hx⟩ := (hB.same s).sq
  refine ⟨f, xs, _, rfl, rfl, e, by rw [hx]; exact lt_line (by omega), q _ (fun B s n => s.out n) (IsLL.push hB s nB hl e).2⟩
theorem r_app {Q : VK} {l : Addr} {ds : List PyData} {v : V} {d : PyData} (h : IsL K H l ds) (hv : Is K H v d) (hz : ds.length < 1000) (q : ∀ H', (∀ B, Same B H → B l = none → Same B H') → IsL K H' l (ds ++ [d]) → Tk H H' → Q .non H') : rAppend (.ref l) [v] H Q := by
  obtain ⟨xs, e, ha⟩ := h
  exact ⟨l, xs, _, rfl, rfl, e, by rw [ha.length]; exact lt_line (by omega), q _ (fun B s n => s.out n) (IsL.put e (ha.snoc hv)) (Tk.lst e)⟩
end
/-- the ties of a grid's rows -/
def tcs (t : Gd) : List (List PyData) := t.map fun r => r.map cel
theorem tcs_row {n b : Nat} {t : Gd} (h : Sq n b t) {i : Nat} (hi : i < n) : ∃ r : List (Option Ut), (tcs t)[i]? = some (r.map cel) ∧ r.length = n ∧ ∀ j, j < n → r[j]? = some (ce t i j) := by
  obtain ⟨r, h1, h2, h3⟩ := h.row hi
  refine ⟨r, by unfold tcs; rw [List.getElem?_map, h1]; rfl, h2, fun j hj => ?_⟩
  unfold ce
  rw [h3, List.getD_eq_getElem?_getD, List.getElem?_eq_getElem (by omega)]
  rfl
end UG
end
section
/-! Unitgrids: weights of walks and placings, ties, cells struck. -/
namespace UG
open PySem PySem.Spec PyProof.Rows L2 RZ UM
section
variable {K : PySem.W.Frag}
theorem nat_get {H : Hp} {xs : List V} {l : List Nat} {i : Nat} {v : V} (h : IsA K H xs (l.map nat)) (e : xs[i]? = some v) : ∃ j, l[i]? = some j ∧ v = .int (j : Nat) := by
  obtain ⟨j, hj, hv⟩ := h.getM' e
  exact ⟨j, hj, hv.nat_eq⟩
theorem take_succ {α : Type} {l : List α} {i : Nat} {x : α} (h : l[i]? = some x) : l.take (i + 1) = l.take i ++ [x] := by
  rw [List.take_add_one, h]
  rfl
theorem cut1H {ds : List PyData} (h : 1 ≤ ds.length) : cutD ds none (some 1) = ds.take 1 := cut_take ds (j := 1) h
theorem cut1T {ds : List PyData} (h : 1 ≤ ds.length) : cutD ds (some 1) none = ds.drop 1 := cut_drop ds (j := 1) h
end
theorem ch_at {E : Nat → Nat → Prop} : ∀ {l : List Nat} {i a b : Nat}, Ch E l → l[i]? = some a → l[i + 1]? = some b → E a b
  | [], i, a, b, _, h, _ => by simp at h
  | [x], i, a, b, _, _, h => by simp at h
  | x :: y :: l, 0, a, b, c, h, h2 => by
    simp at h h2
    subst h h2
    exact c.1
  | x :: y :: l, i + 1, a, b, c, h, h2 => ch_at (l := y :: l) (i := i) c.2 (by simpa using h) (by simpa using h2)
section
variable {P : Program} {w : World} {K : PySem.W.Frag} {mg : Str → Option Value} {base : Heap}
def sp_weight_of (K : PySem.W.Frag) : Sp := fun vs H Q _ => ∃ x y z, vs = [x, y, z] ∧ ∃ (l : Addr) (n b : Nat) (t : Gd) (wk : List Nat), x = .ref l ∧ IsLL K H l (tcs t) ∧ Sq n b t ∧ Is K H y (tn wk) ∧ z = .int (b : Nat) ∧ 1 ≤ b ∧ b ≤ 2 ∧ wk ≠ [] ∧ Ch (Ed n t) wk ∧
  ∀ H' v, Same H H' → Is K H' v (un (vec b fun k => ws (ex t k) wk)) → Q v H'
abbrev n_weight_of : List Str := ["ties", "walk", "bases", "found", "place", "goal"]
theorem sc_weight_of : FnScope n_weight_of ["ties", "walk", "bases"] (defScope s_weight_of) := ⟨rfl, rfl, rfl, by decide +kernel, rfl, by decide +kernel, by decide +kernel⟩
theorem ok_weight_of (T : Txt K mg) : Ok P w K mg base "weight_of" ["ties", "walk", "bases"] 5 (sp_weight_of K) := by
  refine T.x_weight_of.ok sc_weight_of (fun _ _ _ _ _ _ us hl => match us, hl with | [_, _, _], _ => rfl) (fun vs H Q E h => by obtain ⟨_, _, _, rfl, _⟩ := h; rfl) (fun f cdv A outer s H vs Q E hr h => ?_)
  obtain ⟨_, _, _, rfl, l, n, b, t, wk, rfl, hl, sq, hw, rfl, hb1, hb2, hne, hc, q⟩ := h
  obtain ⟨a, xs, rfl, ht, ha⟩ := hw.tup_ex
  have hlen : 1 ≤ wk.length := by cases wk with | nil => exact absurd rfl hne | cons _ _ => simp
  have hxl : xs.length = wk.length := by rw [ha.length, List.length_map]
  refine ⟨_, (pss_cons (ps_set (i := 3) sc_weight_of.nd rfl (.inl rfl) (pc (ok_unitless T) hr rfl (pa_cons (pv 2) pa_nil)))
    (pss_cons (ps_for PassesOwn.never rfl (pi_zipA rfl T.b_zip (pa_cons (pv 1) (pa_cons (pe_slice sl_tupA (pv 1) (po_some pe_int) po_none) pa_nil))) (by refine pg2 (i := 4) (j := 5) K rfl sc_weight_of.nd ?_ ?_ ?_ ?_ ?_ ?_ ?_ <;> first | rfl | exact .inl rfl | exact .inr rfl)
      (pss_one (ps_set (i := 3) sc_weight_of.nd rfl (.inl rfl) (pc (ok_unit_plus T) hr rfl (pa_cons (pv 3) (pa_cons (pe_ix ix_list (pe_ix ix_list (pv 0) (pv 4) (fun _ _ => rfl)) (pv 5) (fun _ _ => rfl)) pa_nil))))))
    (pss_one (ps_ret (pv 3))))), ?_⟩
  dsimp only [tVar, tC, tAdd, tSub, tMul, t2I, tCmp, tIsN, tNotN, tB, tAnd, tOr, tNot, tAndV, tOrV, tNotV, tIf, tSeq, tNext, tDrop, tRet, tRetN, tIfS, tAsg, tAug, tPar, gName, gNil, gCons, gSub, tOp, tUn, tTest, tChain, tCons, tNil, tTup, tLst, tCall, tCB, tMake, tFld, sFld, tNoPart, tPart, tSl, tBM, tBM0, rI0, rI, tYes, Cx.nox, Cx.blk, cxOf, List.nil_append, List.cons_append]
  refine ⟨_, rfl, _, rfl, b, rfl, hb1, by omega, fun H1 f0 s1 h0 => ?_⟩
  refine forG (fun J H1' => ∃ c ys, J = ItzT K a c ∧ Same H1 H1' ∧ SqT K H1' c ys ∧ IsA K H1' ys ((wk.drop 1).map nat)) (fun R k => ?_) (fun J H2 hC => ?_)
  · dsimp only [tVar, tC, tAdd, tSub, tMul, t2I, tCmp, tIsN, tNotN, tB, tAnd, tOr, tNot, tAndV, tOrV, tNotV, tIf, tSeq, tNext, tDrop, tRet, tRetN, tIfS, tAsg, tAug, tPar, gName, gNil, gCons, gSub, tOp, tUn, tTest, tChain, tCons, tNil, tTup, tLst, tCall, tCB, tMake, tFld, sFld, tNoPart, tPart, tSl, tBM, tBM0, rI0, rI, tYes, Cx.nox, Cx.blk, cxOf, List.nil_append, List.cons_append, iZipA]
    refine ⟨_, rfl, _, rfl, _, rfl, ?_⟩
    refine r_sl (hw.same s1) fun H2 v s2 h2 => ?_
    rw [cut1T (by rw [List.length_map]; exact hlen), ← List.map_drop] at h2
    obtain ⟨c, ys, rfl, ht2, ha2⟩ := h2.tup_ex
    exact ⟨a, c, xs, ys, rfl, .inr ⟨SqT.same (s1.trans s2) ht, ht2, k _ _ ⟨c, ys, rfl, s2, ht2, ha2⟩⟩⟩
  · obtain ⟨c, ys, rfl, s2, ht2, ha2⟩ := hC
    have hyl : ys.length = wk.length - 1 := by rw [ha2.length, List.length_map, List.length_drop]
    have hm : min xs.length ys.length = wk.length - 1 := by omega
    refine ⟨_, H2, _, feedZT (SqT.same (s1.trans s2) ht) ht2, fun i σ H' => (∃ v y4 y5, σ = [some (.ref l), some (.ref a), some (.int (b : Nat)), some v, y4, y5] ∧ Is K H' v (un (vec b fun k => ws (ex t k) (wk.take (i + 1))))) ∧ Same H2 H',
      ⟨⟨f0, none, none, rfl, ?_⟩, Same.refl _⟩, fun _ _ _ h => h.2, fun i x σ H3 H4 hi hP s3 it => ?_, fun σ H3 hP => ?_⟩
    · have e : (vec b fun k => ws (ex t k) (wk.take (0 + 1))) = u0 b := by
        rw [u0_vec]
        refine vec_congr fun k _ => ?_
        cases wk with
        | nil => exact absurd rfl hne
        | cons x r => rfl
      rw [e]
      exact h0.same s2
    · obtain ⟨⟨v, y4, y5, rfl, hv⟩, s4⟩ := hP
      obtain ⟨T', p, r, rfl, e1, e2, e3⟩ := it
      obtain ⟨i1, g1, rfl⟩ := nat_get ha e1
      obtain ⟨i2, g2, rfl⟩ := nat_get ha2 e2
      rw [List.getElem?_drop, Nat.add_comm 1 i] at g2
      obtain ⟨hi1, hi2, u, hu⟩ := ch_at hc g1 g2
      obtain ⟨r, hr1, hr2, hr3⟩ := tcs_row sq hi1
      refine gPair e3 ?_
      dsimp only [tVar, tC, tAdd, tSub, tMul, t2I, tCmp, tIsN, tNotN, tB, tAnd, tOr, tNot, tAndV, tOrV, tNotV, tIf, tSeq, tNext, tDrop, tRet, tRetN, tIfS, tAsg, tAug, tPar, gName, gNil, gCons, gSub, tOp, tUn, tTest, tChain, tCons, tNil, tTup, tLst, tCall, tCB, tMake, tFld, sFld, tNoPart, tPart, tSl, tBM, tBM0, rI0, rI, tYes, Cx.nox, Cx.blk, cxOf, List.nil_append, List.cons_append]
      have sA := (s1.trans s2).trans (s4.trans s3)
      refine ⟨_, rfl, _, rfl, _, rfl, r_ixLL rfl (hl.same sA) rfl hr1 fun a2 ha3 => ⟨_, rfl, r_ixLn rfl ha3 rfl (by rw [List.getElem?_map, hr3 i2 hi2, hu]; rfl) fun v2 hv2 => ?_⟩⟩
      refine ⟨_, _, rfl, _, u, hv.same s3, hv2, by rw [vec_len]; omega, fun H5 z s5 hz => ⟨⟨z, _, _, rfl, ?_⟩, (s4.trans s3).trans s5⟩⟩
      have e : ua (vec b fun k => ws (ex t k) (wk.take (i + 1))) u = vec b fun k => ws (ex t k) (wk.take (i + 1 + 1)) := by
        rw [ex_vec sq hu, ua_vec]
        refine vec_congr fun k _ => ?_
        rw [take_succ g2, take_succ g1, ws_snoc]
      rw [← e]
      exact hz
    · obtain ⟨⟨v, y4, y5, rfl, hv⟩, s4⟩ := hP
      refine ⟨_, rfl, q _ _ ((s1.trans s2).trans s4) ?_⟩
      rw [hm, show wk.length - 1 + 1 = wk.length by omega, List.take_length] at hv
      exact hv
def sp_ring_weight (K : PySem.W.Frag) : Sp := fun vs H Q _ => ∃ x y z, vs = [x, y, z] ∧ ∃ (l : Addr) (n b : Nat) (t : Gd) (r : List Nat), x = .ref l ∧ IsLL K H l (tcs t) ∧ Sq n b t ∧ Is K H y (tn r) ∧ z = .int (b : Nat) ∧ 1 ≤ b ∧ b ≤ 2 ∧ Rg (Ed n t) r ∧ r.length ≤ 100 ∧
  ∀ H' v, Same H H' → Is K H' v (un (vec b fun k => rw_ (ex t k) r)) → Q v H'
abbrev n_ring_weight : List Str := ["ties", "ring", "bases"]
theorem sc_ring_weight : FnScope n_ring_weight ["ties", "ring", "bases"] (defScope s_ring_weight) := ⟨rfl, rfl, rfl, by decide +kernel, rfl, by decide +kernel, by decide +kernel⟩
theorem ok_ring_weight (T : Txt K mg) : Ok P w K mg base "ring_weight" ["ties", "ring", "bases"] 6 (sp_ring_weight K) := by
  refine T.x_ring_weight.ok sc_ring_weight (fun _ _ _ _ _ _ us hl => match us, hl with | [_, _, _], _ => rfl) (fun vs H Q E h => by obtain ⟨_, _, _, rfl, _⟩ := h; rfl) (fun f cdv A outer s H vs Q E hr h => ?_)
  obtain ⟨_, _, _, rfl, l, n, b, t, r, rfl, hl, sq, hr0, rfl, hb1, hb2, rg, hz, q⟩ := h
  refine ⟨_, (pss_one (ps_ret (pc (ok_weight_of T) hr rfl (pa_cons (pv 0) (pa_cons (pe_op op_catA (pv 1) (pe_slice sl_tupA (pv 1) po_none (po_some pe_int))) (pa_cons (pv 2) pa_nil)))))), ?_⟩
  dsimp only [tVar, tC, tAdd, tSub, tMul, t2I, tCmp, tIsN, tNotN, tB, tAnd, tOr, tNot, tAndV, tOrV, tNotV, tIf, tSeq, tNext, tDrop, tRet, tRetN, tIfS, tAsg, tAug, tPar, gName, gNil, gCons, gSub, tOp, tUn, tTest, tChain, tCons, tNil, tTup, tLst, tCall, tCB, tMake, tFld, sFld, tNoPart, tPart, tSl, tBM, tBM0, rI0, rI, tYes, Cx.nox, Cx.blk, cxOf, List.nil_append, List.cons_append]
  have hlen : 1 ≤ r.length := by
    have := rg.ne
    cases r with | nil => exact absurd rfl this | cons _ _ => simp
  refine ⟨_, rfl, _, rfl, _, rfl, _, rfl, ?_⟩
  refine r_sl hr0 fun H1 v1 s1 h1 => ?_
  rw [cut1H (by rw [List.length_map]; exact hlen)] at h1
  refine r_cat (hr0.same s1) h1 (le_line (by simp; omega)) fun H2 v2 s2 h2 => ⟨_, rfl, ?_⟩
  refine ⟨_, _, _, rfl, l, n, b, t, r ++ r.take 1, rfl, hl.same (s1.trans s2), sq, ?_, rfl, hb1, hb2, by simp [rg.ne], rg.ch, fun H' v s3 h3 => q H' v ((s1.trans s2).trans s3) h3⟩
  have e : tn (r ++ r.take 1) = .tuple (r.map nat ++ (r.map nat).take 1) := by
    unfold tn
    rw [List.map_append, List.map_take]
  rw [e]
  exact h2
/-- a placing, as a list -/
structure Pl (n : Nat) (g : Gd) (p : List Nat) : Prop where
  len : p.length = n
  is : IsP n (Ed n g) fun i => p.getD i 0
def sp_placing_unit (K : PySem.W.Frag) : Sp := fun vs H Q _ => ∃ x y z, vs = [x, y, z] ∧ ∃ (n b : Nat) (g : Gd) (p : List Nat), Is K H x (rws g) ∧ Sq n b g ∧ Is K H y (tn p) ∧ Pl n g p ∧ z = .int (b : Nat) ∧ 1 ≤ b ∧ b ≤ 2 ∧
  ∀ H' v, Same H H' → Is K H' v (un (vec b fun k => W n (ex g k) fun i => p.getD i 0)) → Q v H'
theorem getD_nat {p : List Nat} {i j : Nat} (h : p[i]? = some j) : p.getD i 0 = j := by rw [List.getD_eq_getElem?_getD, h]; rfl
abbrev n_placing_unit : List Str := ["rows", "placing", "bases", "found", "row", "column"]
theorem sc_placing_unit : FnScope n_placing_unit ["rows", "placing", "bases"] (defScope s_placing_unit) := ⟨rfl, rfl, rfl, by decide +kernel, rfl, by decide +kernel, by decide +kernel⟩
theorem ok_placing_unit (T : Txt K mg) : Ok P w K mg base "placing_unit" ["rows", "placing", "bases"] 5 (sp_placing_unit K) := by
  refine T.x_placing_unit.ok sc_placing_unit (fun _ _ _ _ _ _ us hl => match us, hl with | [_, _, _], _ => rfl) (fun vs H Q E h => by obtain ⟨_, _, _, rfl, _⟩ := h; rfl) (fun f cdv A outer s H vs Q E hr h => ?_)
  obtain ⟨x, y, _, rfl, n, b, g, p, hx, sq, hy, pl, rfl, hb1, hb2, q⟩ := h
  obtain ⟨a, xs, rfl, ht, ha⟩ := hx.tup_ex
  obtain ⟨c, ys, rfl, ht2, ha2⟩ := hy.tup_ex
  have hxl : xs.length = n := by rw [ha.length, List.length_map, sq.num]
  have hyl : ys.length = n := by rw [ha2.length, List.length_map, pl.len]
  have hm : min xs.length ys.length = n := by omega
  refine ⟨_, (pss_cons (ps_set (i := 3) sc_placing_unit.nd rfl (.inl rfl) (pc (ok_unitless T) hr rfl (pa_cons (pv 2) pa_nil)))
    (pss_cons (ps_for PassesOwn.never rfl (pi_zipA rfl T.b_zip (pa_cons (pv 0) (pa_cons (pv 1) pa_nil))) (by refine pg2 (i := 4) (j := 5) K rfl sc_placing_unit.nd ?_ ?_ ?_ ?_ ?_ ?_ ?_ <;> first | rfl | exact .inl rfl | exact .inr rfl)
      (pss_one (ps_set (i := 3) sc_placing_unit.nd rfl (.inl rfl) (pc (ok_unit_plus T) hr rfl (pa_cons (pv 3) (pa_cons (pe_ix ix_tup (pv 4) (pv 5) (fun _ _ => rfl)) pa_nil))))))
    (pss_one (ps_ret (pv 3))))), ?_⟩
  dsimp only [tVar, tC, tAdd, tSub, tMul, t2I, tCmp, tIsN, tNotN, tB, tAnd, tOr, tNot, tAndV, tOrV, tNotV, tIf, tSeq, tNext, tDrop, tRet, tRetN, tIfS, tAsg, tAug, tPar, gName, gNil, gCons, gSub, tOp, tUn, tTest, tChain, tCons, tNil, tTup, tLst, tCall, tCB, tMake, tFld, sFld, tNoPart, tPart, tSl, tBM, tBM0, rI0, rI, tYes, Cx.nox, Cx.blk, cxOf, List.nil_append, List.cons_append]
  refine ⟨_, rfl, _, rfl, b, rfl, hb1, by omega, fun H1 f0 s1 h0 => ?_⟩
  refine forF (B := H1) (feedZT (SqT.same s1 ht) (SqT.same s1 ht2)) (fun R r => ⟨_, rfl, _, rfl, a, c, xs, ys, rfl, .inr ⟨SqT.same s1 ht, SqT.same s1 ht2, r⟩⟩)
    (fun i σ H' => (∃ v y4 y5, σ = [some (.ref a), some (.ref c), some (.int (b : Nat)), some v, y4, y5] ∧ Is K H' v (un (vec b fun k => sm i fun r => ex g k r (p.getD r 0)))) ∧ Same H1 H')
    ⟨⟨f0, none, none, rfl, by rw [u0_vec] at h0; exact h0⟩, Same.refl _⟩ (fun _ _ _ h => h.2) (fun i x σ H3 H4 hi hP s3 it => ?_) (fun σ H3 hP => ?_)
  · obtain ⟨⟨v, y4, y5, rfl, hv⟩, s4⟩ := hP
    obtain ⟨T', r0, c0, rfl, e1, e2, e3⟩ := it
    obtain ⟨r, g1, hr1⟩ := ha.getM' e1
    obtain ⟨j, g2, rfl⟩ := nat_get ha2 e2
    have hin : i < n := by omega
    obtain ⟨_, hj, u, hu⟩ := pl.is.at_ i hin
    simp only [getD_nat g2] at hj hu
    obtain ⟨r', q1, q2, q3⟩ := sq.cel hin hj
    rw [g1] at q1
    cases q1
    refine gPair e3 ?_
    dsimp only [tVar, tC, tAdd, tSub, tMul, t2I, tCmp, tIsN, tNotN, tB, tAnd, tOr, tNot, tAndV, tOrV, tNotV, tIf, tSeq, tNext, tDrop, tRet, tRetN, tIfS, tAsg, tAug, tPar, gName, gNil, gCons, gSub, tOp, tUn, tTest, tChain, tCons, tNil, tTup, tLst, tCall, tCB, tMake, tFld, sFld, tNoPart, tPart, tSl, tBM, tBM0, rI0, rI, tYes, Cx.nox, Cx.blk, cxOf, List.nil_append, List.cons_append]
    refine ⟨_, rfl, _, rfl, _, rfl, r_ixTn (ds := r.map cel) (hr1.same (s1.trans (s4.trans s3))) rfl (by rw [List.getElem?_map, q3, hu]; rfl) fun v2 hv2 => ?_⟩
    refine ⟨_, _, rfl, _, u, hv.same s3, hv2, by rw [vec_len]; omega, fun H5 z s5 hz => ⟨⟨z, _, _, rfl, ?_⟩, (s4.trans s3).trans s5⟩⟩
    have e : ua (vec b fun k => sm i fun r => ex g k r (p.getD r 0)) u = vec b fun k => sm (i + 1) fun r => ex g k r (p.getD r 0) := by
      rw [ex_vec sq hu, ua_vec]
      refine vec_congr fun k _ => ?_
      show _ = sm i _ + ex g k i (p.getD i 0)
      rw [getD_nat g2]
    rw [← e]
    exact hz
  · obtain ⟨⟨v, y4, y5, rfl, hv⟩, s4⟩ := hP
    refine ⟨_, rfl, q _ _ (s1.trans s4) ?_⟩
    rw [hm] at hv
    exact hv
end
end UG
end
section
/-! Unitgrids: the ties of a placing, cells struck, rows turned. -/
namespace UG
open PySem PySem.Spec PyProof.Rows L2 RZ UM
/-- a square of cells, by its places -/
def mk (n : Nat) (f : Nat → Nat → Option Ut) : Gd := (List.range n).map fun i => (List.range n).map (f i)
theorem mk_row {n : Nat} (f : Nat → Nat → Option Ut) {i : Nat} (hi : i < n) : (mk n f).getD i [] = (List.range n).map (f i) := by
  unfold mk
  rw [List.getD_eq_getElem?_getD, List.getElem?_map, List.getElem?_range hi]
  rfl
theorem ce_mk {n : Nat} {f : Nat → Nat → Option Ut} {i j : Nat} (hi : i < n) (hj : j < n) : ce (mk n f) i j = f i j := by
  unfold ce
  rw [mk_row f hi, List.getD_eq_getElem?_getD, List.getElem?_map, List.getElem?_range hj]
  rfl
theorem ce_mk_some {n : Nat} {f : Nat → Nat → Option Ut} {i j : Nat} {u : Ut} (h : ce (mk n f) i j = some u) : i < n ∧ j < n ∧ f i j = some u := by
  by_cases hi : i < n
  · by_cases hj : j < n
    · rw [ce_mk hi hj] at h
      exact ⟨hi, hj, h⟩
    · unfold ce at h
      rw [mk_row f hi, List.getD_eq_getElem?_getD, List.getElem?_eq_none_iff.mpr (by simp; omega)] at h
      cases h
  · unfold ce mk at h
    rw [List.getD_eq_getElem?_getD, List.getD_eq_getElem?_getD, List.getElem?_eq_none_iff.mpr (show ((List.range n).map fun i => (List.range n).map (f i)).length ≤ i by simp; omega)] at h
    simp at h
theorem sq_mk {n b : Nat} {f : Nat → Nat → Option Ut} (h : ∀ i j u, i < n → j < n → f i j = some u → u.length = b) : Sq n b (mk n f) where
  num := by unfold mk; simp
  sq := fun r hr => by
    unfold mk at hr
    obtain ⟨i, _, rfl⟩ := List.mem_map.mp hr
    simp
  ok := fun i j u e => by
    obtain ⟨hi, hj, e⟩ := ce_mk_some e
    exact h i j u hi hj e
theorem ed_mk {n : Nat} {f : Nat → Nat → Option Ut} {i j : Nat} : Ed n (mk n f) i j ↔ i < n ∧ j < n ∧ ∃ u, f i j = some u := by
  constructor
  · rintro ⟨hi, hj, u, e⟩
    rw [ce_mk hi hj] at e
    exact ⟨hi, hj, u, e⟩
  · rintro ⟨hi, hj, u, e⟩
    exact ⟨hi, hj, u, by rw [ce_mk hi hj]; exact e⟩
theorem tcs_mk (n : Nat) (f : Nat → Nat → Option Ut) : tcs (mk n f) = (List.range n).map fun i => (List.range n).map fun j => cel (f i j) := by
  unfold tcs mk
  rw [List.map_map]
  refine List.map_congr_left fun i _ => ?_
  show ((List.range n).map (f i)).map cel = _
  rw [List.map_map]
  rfl
theorem take_range {α : Type} (f : Nat → α) {n i : Nat} (h : i < n) : ((List.range n).map f).take (i + 1) = ((List.range n).map f).take i ++ [f i] := by
  refine take_succ ?_
  rw [List.getElem?_map, List.getElem?_range h]
  rfl
theorem take_all {α : Type} (f : Nat → α) (n : Nat) : ((List.range n).map f).take n = (List.range n).map f := List.take_of_length_le (by simp)
/-- the tie of one row to another -/
def tieC (g : Gd) (p : List Nat) (i j : Nat) : Option Ut := if i = j then none else match ce g i (p.getD j 0) with
  | none => none
  | some u => some (us u ((ce g j (p.getD j 0)).getD []))
/-- ties as the mathematics has them -/
theorem tie_iff {n b : Nat} {g : Gd} {p : List Nat} (sq : Sq n b g) (pl : Pl n g p) {i j : Nat} : Ed n (mk n (tieC g p)) i j ↔ Tie n (Ed n g) (fun i => p.getD i 0) i j := by
  rw [ed_mk]
  constructor
  · rintro ⟨hi, hj, u, e⟩
    unfold tieC at e
    split at e
    · cases e
    · rename_i ne
      cases q : ce g i (p.getD j 0) with
      | none => rw [q] at e; cases e
      | some v => exact ⟨hi, hj, ne, hi, pl.is.lt j hj, v, q⟩
  · rintro ⟨hi, hj, ne, _, _, v, q⟩
    refine ⟨hi, hj, us v ((ce g j (p.getD j 0)).getD []), ?_⟩
    unfold tieC
    rw [if_neg ne, q]
theorem tie_ok {n b : Nat} {g : Gd} {p : List Nat} (sq : Sq n b g) (pl : Pl n g p) : Sq n b (mk n (tieC g p)) := sq_mk fun i j u hi hj e => by
  unfold tieC at e
  split at e
  · cases e
  · cases q : ce g i (p.getD j 0) with
    | none => rw [q] at e; cases e
    | some v =>
      rw [q] at e
      obtain ⟨_, _, v', q'⟩ := pl.is.at_ j hj
      rw [q'] at e
      cases e
      exact us_len (sq.ok _ _ _ q) (sq.ok _ _ _ q')
theorem tie_ex {n b k : Nat} {g : Gd} {p : List Nat} (sq : Sq n b g) (pl : Pl n g p) {i j : Nat} (h : Tie n (Ed n g) (fun i => p.getD i 0) i j) (hk : k < b) : ex (mk n (tieC g p)) k i j = tw (ex g k) (fun i => p.getD i 0) i j := by
  obtain ⟨hi, hj, ne, _, _, v, q⟩ := h
  obtain ⟨_, _, v', q'⟩ := pl.is.at_ j hj
  unfold ex tw
  rw [ce_mk hi hj]
  have e : tieC g p i j = some (us v v') := by
    unfold tieC
    rw [if_neg ne, show ce g i (p.getD j 0) = some v from q, show ce g j (p.getD j 0) = some v' from q']
    rfl
  rw [e]
  show (us v v').getD k 0 = ((ce g i (p.getD j 0)).getD []).getD k 0 - ((ce g j (p.getD j 0)).getD []).getD k 0
  rw [show ce g i (p.getD j 0) = some v from q, show ce g j (p.getD j 0) = some v' from q']
  show (us v v').getD k 0 = v.getD k 0 - v'.getD k 0
  rw [ex_vec sq q, ex_vec sq q', us_vec, vec_at _ hk, vec_at _ hk, vec_at _ hk]
section
variable {P : Program} {w : World} {K : PySem.W.Frag} {mg : Str → Option Value} {base : Heap}
def sp_placing_ties (K : PySem.W.Frag) : Sp := fun vs H Q _ => ∃ x y, vs = [x, y] ∧ ∃ (n b : Nat) (g : Gd) (p : List Nat), Is K H x (rws g) ∧ Sq n b g ∧ n ≤ 10 ∧ b ≤ 2 ∧ Is K H y (tn p) ∧ Pl n g p ∧
  ∀ H' l, Same H H' → IsLL K H' l (tcs (mk n (tieC g p))) → Q (.ref l) H'
abbrev n_placing_ties : List Str := ["rows", "placing", "found", "one", "row", "line", "other", "column", "is_tie"]
theorem sc_placing_ties : FnScope n_placing_ties ["rows", "placing"] (defScope s_placing_ties) := ⟨rfl, rfl, rfl, by decide +kernel, rfl, by decide +kernel, by decide +kernel⟩
theorem ok_placing_ties (T : Txt K mg) : Ok P w K mg base "placing_ties" ["rows", "placing"] 5 (sp_placing_ties K) := by
  refine T.x_placing_ties.ok sc_placing_ties (fun _ _ _ _ _ _ us hl => match us, hl with | [_, _], _ => rfl) (fun vs H Q E h => by obtain ⟨_, _, rfl, _⟩ := h; rfl) (fun f cdv A outer s H vs Q E hr h => ?_)
  obtain ⟨x, y, rfl, n, b, g, p, hx, sq, hn, hb, hy, pl, q⟩ := h
  obtain ⟨a, xs, rfl, ht, ha⟩ := hx.tup_ex
  obtain ⟨c, ys, rfl, ht2, ha2⟩ := hy.tup_ex
  have hxl : xs.length = n := by rw [ha.length, List.length_map, sq.num]
  have hyl : ys.length = n := by rw [ha2.length, List.length_map, pl.len]
  refine ⟨_, (pss_cons (ps_set (i := 2) sc_placing_ties.nd rfl (.inl rfl) (pe_lst pa_nil))
    (pss_cons (ps_for PassesOwn.never rfl (pi_enumT rfl T.b_enumerate (pa_cons (pv 0) pa_nil)) (by refine pg2 (i := 3) (j := 4) K rfl sc_placing_ties.nd ?_ ?_ ?_ ?_ ?_ ?_ ?_ <;> first | rfl | exact .inl rfl | exact .inr rfl)
      (pss_cons (ps_set (i := 5) sc_placing_ties.nd rfl (.inl rfl) (pe_lst pa_nil))
      (pss_cons (ps_for PassesOwn.never rfl (pi_enumT rfl T.b_enumerate (pa_cons (pv 1) pa_nil)) (by refine pg2 (i := 6) (j := 7) K rfl sc_placing_ties.nd ?_ ?_ ?_ ?_ ?_ ?_ ?_ <;> first | rfl | exact .inl rfl | exact .inr rfl)
        (pss_cons (ps_set (i := 8) sc_placing_ties.nd rfl (.inl rfl) (pe_and (pe_cmpR op_ne (pv 3) (pv 6) (nomark _)) (pe_one (pe_cmp (pc_notN (pe_ix ix_tup (pv 4) (pv 7) (fun _ _ => rfl)))))))
        (pss_one (ps_expr (pe_bm PySem.F.plainAttrs_list PySem.F.slot_list_append PySem.F.type_list_append mt_append (pv 5) (pa_cons (pe_ifExp (pt_val (pv 8)) (pc (ok_unit_minus T) hr rfl (pa_cons (pe_ix ix_tup (pv 4) (pv 7) (fun _ _ => rfl)) (pa_cons (pe_ix ix_tup (pe_ix ix_tup (pv 0) (pv 6) (fun _ _ => rfl)) (pv 7) (fun _ _ => rfl)) pa_nil))) pe_non) pa_nil))))))
      (pss_one (ps_expr (pe_bm PySem.F.plainAttrs_list PySem.F.slot_list_append PySem.F.type_list_append mt_append (pv 2) (pa_cons (pv 5) pa_nil)))))))
    (pss_one (ps_ret (pv 2))))), ?_⟩
  dsimp only [tVar, tC, tAdd, tSub, tMul, t2I, tCmp, tIsN, tNotN, tB, tAnd, tOr, tNot, tAndV, tOrV, tNotV, tIf, tSeq, tNext, tDrop, tRet, tRetN, tIfS, tAsg, tAug, tPar, gName, gNil, gCons, gSub, tOp, tUn, tTest, tChain, tCons, tNil, tTup, tLst, tCall, tCB, tMake, tFld, sFld, tNoPart, tPart, tSl, tBM, tBM0, rI0, rI, tYes, Cx.nox, Cx.blk, cxOf, List.nil_append, List.cons_append]
  refine ⟨Nat.zero_le _, fun fo nf => ?_⟩
  refine forF (B := H) (feedET ht) (fun R r => ⟨_, rfl, a, xs, rfl, SqT.same (same_upd nf) ht, r⟩)
    (fun i σ H' => (∃ y3 y4 y5 y6 y7 y8, σ = [some (.ref a), some (.ref c), some (.ref fo), y3, y4, y5, y6, y7, y8]) ∧ Same H H' ∧ IsLL K H' fo (((List.range n).map fun i => (List.range n).map fun j => cel (tieC g p i j)).take i))
    ⟨⟨_, _, _, _, _, _, rfl⟩, same_upd nf, IsLL.nil nf⟩ (fun _ _ _ h => h.2.1) (fun i x σ H1 H2 hi hP s it => ?_) (fun σ H1 hP => ?_)
  · obtain ⟨⟨y3, y4, y5, y6, y7, y8, rfl⟩, s1, hf⟩ := hP
    obtain ⟨T', v, rfl, e1, e2⟩ := it
    obtain ⟨r, hr1, hv⟩ := ha.getM' e1
    have hi : i < n := by omega
    refine gPair e2 ?_
    dsimp only [tVar, tC, tAdd, tSub, tMul, t2I, tCmp, tIsN, tNotN, tB, tAnd, tOr, tNot, tAndV, tOrV, tNotV, tIf, tSeq, tNext, tDrop, tRet, tRetN, tIfS, tAsg, tAug, tPar, gName, gNil, gCons, gSub, tOp, tUn, tTest, tChain, tCons, tNil, tTup, tLst, tCall, tCB, tMake, tFld, sFld, tNoPart, tPart, tSl, tBM, tBM0, rI0, rI, tYes, Cx.nox, Cx.blk, cxOf, List.nil_append, List.cons_append]
    refine ⟨Nat.zero_le _, fun li nl => ?_⟩
    have s2 := s1.trans s
    refine forF (B := H2) (feedET (SqT.same s2 ht2)) (fun R r => ⟨_, rfl, c, ys, rfl, SqT.same (s2.new nl) ht2, r⟩)
      (fun j σ H' => (∃ y6 y7 y8, σ = [some (.ref a), some (.ref c), some (.ref fo), some (.int (i : Nat)), some v, some (.ref li), y6, y7, y8]) ∧ Same H2 H' ∧ IsL K H' li (((List.range n).map fun j => cel (tieC g p i j)).take j))
      ⟨⟨_, _, _, rfl⟩, same_upd nl, IsL.mk nl .nil⟩ (fun _ _ _ h => h.2.1) (fun j x σ H3 H4 hj hP s3 it => ?_) (fun σ H3 hP => ?_)
    · obtain ⟨⟨y6, y7, y8, rfl⟩, s4, hl⟩ := hP
      obtain ⟨T2, v2, rfl, e3, e4⟩ := it
      obtain ⟨cj, hc1, rfl⟩ := nat_get ha2 e3
      have hj : j < n := by omega
      have s5 := s2.trans (s4.trans s3)
      obtain ⟨_, hcj, u', hu'⟩ := pl.is.at_ j hj
      simp only [getD_nat hc1] at hcj hu'
      have hrow : Is K H4 v (row r) := hv.same s5
      obtain ⟨r', q1, q2, q3⟩ := sq.cel hi hcj
      rw [hr1] at q1
      cases q1
      -- the line gets its next thing
      have fin : ∀ H5 z t, Same H4 H5 → Is K H5 z (cel (tieC g p i j)) → rAppend (.ref li) [z] H5 fun _ H6 => (∃ y6 y7 y8, [some (.ref a), some (.ref c), some (.ref fo), some (.int (i : Nat)), some v, some (.ref li), some (.int (j : Nat)), some (.int (cj : Nat)), some (.bl t)] = [some (.ref a), some (.ref c), some (.ref fo), some (.int (i : Nat)), some v, some (.ref li), y6, y7, y8]) ∧ Same H2 H6 ∧ IsL K H6 li (((List.range n).map fun j => cel (tieC g p i j)).take (j + 1)) := by
        intro H5 z t s6 hz
        refine r_app (hl.same (s3.trans s6)) hz (by simp; omega) fun H6 k h6 _ => ⟨⟨_, _, _, rfl⟩, k H2 (s4.trans (s3.trans s6)) nl, ?_⟩
        rw [take_range _ hj]
        exact h6
      refine gPair e4 ?_
      dsimp only [tVar, tC, tAdd, tSub, tMul, t2I, tCmp, tIsN, tNotN, tB, tAnd, tOr, tNot, tAndV, tOrV, tNotV, tIf, tSeq, tNext, tDrop, tRet, tRetN, tIfS, tAsg, tAug, tPar, gName, gNil, gCons, gSub, tOp, tUn, tTest, tChain, tCons, tNil, tTup, tLst, tCall, tCB, tMake, tFld, sFld, tNoPart, tPart, tSl, tBM, tBM0, rI0, rI, tYes, Cx.nox, Cx.blk, cxOf, List.nil_append, List.cons_append]
      refine ⟨_, rfl, _, rfl, rfl, _, rfl, ?_⟩
      by_cases hij : i = j
      · have e : (!decide (V.int (i : Nat) = V.int (j : Nat))) = false := by rw [hij]; simp
        refine ifF e ⟨_, rfl, (hl.same s3).ty, _, rfl, _, rfl, ifF rfl (fin H4 _ _ (Same.refl _) ?_)⟩
        unfold tieC
        rw [if_pos hij]
        exact .non
      · have e : (!decide (V.int (i : Nat) = V.int (j : Nat))) = true := by
          simp only [Bool.not_eq_true', decide_eq_false_iff_not]
          intro z
          injection z with z
          omega
        refine ifT e ⟨_, rfl, _, rfl, r_ixTn (ds := r.map cel) hrow rfl (by rw [List.getElem?_map, q3]; rfl) fun v3 hv3 => ?_⟩
        cases hce : ce g i cj with
        | none =>
          rw [hce] at hv3
          have e3 : v3 = .non := hv3.non_eq
          refine ⟨_, rfl, (hl.same s3).ty, _, rfl, _, rfl, ifF (by rw [e3]; rfl) (fin H4 _ _ (Same.refl _) ?_)⟩
          unfold tieC
          rw [if_neg hij, getD_nat hc1, hce]
          exact .non
        | some u =>
          rw [hce] at hv3
          have hv3 : Is K H4 v3 (un u) := hv3
          refine ⟨_, rfl, (hl.same s3).ty, _, rfl, _, rfl, ifT (by rw [decide_eq_false hv3.notNon]; rfl) ?_⟩
          refine ⟨_, rfl, _, rfl, r_ixTn (ds := r.map cel) hrow rfl (by rw [List.getElem?_map, q3, hce]; rfl) fun v4 hv4 => ?_⟩
          obtain ⟨rj, p1, p2, p3⟩ := sq.cel hj hcj
          refine ⟨_, rfl, _, rfl, r_ixTn (ds := g.map row) (hx.same s5) rfl (by rw [List.getElem?_map, p1]; rfl) fun v5 hv5 => ?_⟩
          refine ⟨_, rfl, r_ixTn (ds := rj.map cel) hv5 rfl (by rw [List.getElem?_map, p3, hu']; rfl) fun v6 hv6 => ?_⟩
          refine ⟨_, _, rfl, u, u', hv4, hv6, by rw [sq.ok _ _ _ hce]; omega, fun H5 z s6 hz => ?_⟩
          refine fin H5 z _ s6 ?_
          unfold tieC
          rw [if_neg hij, getD_nat hc1, hce, hu']
          exact hz
    · obtain ⟨⟨y6, y7, y8, rfl⟩, s4, hl⟩ := hP
      dsimp only [tVar, tC, tAdd, tSub, tMul, t2I, tCmp, tIsN, tNotN, tB, tAnd, tOr, tNot, tAndV, tOrV, tNotV, tIf, tSeq, tNext, tDrop, tRet, tRetN, tIfS, tAsg, tAug, tPar, gName, gNil, gCons, gSub, tOp, tUn, tTest, tChain, tCons, tNil, tTup, tLst, tCall, tCB, tMake, tFld, sFld, tNoPart, tPart, tSl, tBM, tBM0, rI0, rI, tYes, Cx.nox, Cx.blk, cxOf, List.nil_append, List.cons_append]
      rw [hyl, take_all] at hl
      refine ⟨_, rfl, ((hf.same s).same s4).ty, _, rfl, ?_⟩
      refine r_appLL (hf.same s) s4 nl hl (by simp; omega) fun H5 k h5 => ⟨⟨_, _, _, _, _, _, rfl⟩, k H (s2.trans s4) nf, ?_⟩
      rw [take_range _ hi]
      exact h5
  · obtain ⟨⟨y3, y4, y5, y6, y7, y8, rfl⟩, s1, hf⟩ := hP
    refine ⟨_, rfl, q _ _ s1 ?_⟩
    rw [hxl, take_all] at hf
    rw [tcs_mk]
    exact hf
end
/-- the cells of a lot struck -/
def setc (g : Gd) (i j : Nat) : Gd := g.set i ((g.getD i []).set j none)
def strike (g : Gd) : List (Int × Int) → Gd
  | [] => g
  | p :: l => strike (setc g p.1.toNat p.2.toNat) l
theorem setc_ce (g : Gd) (i j a c : Nat) : ce (setc g i j) a c = if a = i ∧ c = j then none else ce g a c := by
  unfold ce setc
  by_cases ha : a = i
  · subst ha
    by_cases hl : a < g.length
    · have e : (g.set a ((g.getD a []).set j none)).getD a [] = (g.getD a []).set j none := by
        rw [List.getD_eq_getElem?_getD, List.getElem?_set_self hl]
        rfl
      rw [e]
      by_cases hc : c = j
      · subst hc
        rw [if_pos ⟨rfl, rfl⟩, List.getD_eq_getElem?_getD]
        by_cases hj : c < (g.getD a []).length
        · rw [List.getElem?_set_self hj]; rfl
        · rw [List.getElem?_eq_none_iff.mpr (by rw [List.length_set]; omega)]; rfl
      · rw [if_neg (fun z => hc z.2), List.getD_eq_getElem?_getD, List.getElem?_set_ne (Ne.symm hc), ← List.getD_eq_getElem?_getD]
    · have e : g.getD a [] = [] := by
        rw [List.getD_eq_getElem?_getD, List.getElem?_eq_none_iff.mpr (by omega)]
        rfl
      rw [List.set_eq_of_length_le (by omega), e]
      split <;> rfl
  · have e : (g.set i ((g.getD i []).set j none)).getD a [] = g.getD a [] := by
      rw [List.getD_eq_getElem?_getD, List.getElem?_set_ne (Ne.symm ha), ← List.getD_eq_getElem?_getD]
    rw [if_neg (fun z => ha z.1), e]
theorem strike_ce : ∀ (l : List (Int × Int)) (g : Gd) (a c : Nat), (∀ p ∈ l, 0 ≤ p.1 ∧ 0 ≤ p.2) → ce (strike g l) a c = if ((a : Nat), (c : Nat)) ∈ l.map (fun p => (p.1.toNat, p.2.toNat)) then none else ce g a c
  | [], g, a, c, _ => by simp [strike]
  | p :: l, g, a, c, h => by
    rw [strike, strike_ce l _ a c fun q hq => h q (List.mem_cons_of_mem _ hq), setc_ce]
    simp only [List.map_cons, List.mem_cons, Prod.mk.injEq]
    by_cases h1 : (a, c) ∈ l.map fun p => (p.1.toNat, p.2.toNat)
    · rw [if_pos h1, if_pos (.inr h1)]
    · rw [if_neg h1]
      by_cases h2 : a = p.1.toNat ∧ c = p.2.toNat
      · rw [if_pos h2, if_pos (.inl h2)]
      · rw [if_neg h2, if_neg (fun z => z.elim h2 h1)]
theorem setc_ok {b : Nat} {g : Gd} (h : OkG b g) (i j : Nat) : OkG b (setc g i j) ∧ (setc g i j).length = g.length := by
  have e : (setc g i j).length = g.length := by unfold setc; rw [List.length_set]
  refine ⟨⟨h.b1, h.b2, by rw [e]; exact h.n1, by rw [e]; exact h.n2, fun r hr => ?_, fun r hr c hc => ?_⟩, e⟩
  · rw [e]
    rcases List.mem_or_eq_of_mem_set hr with z | z
    · exact h.sq r z
    · subst z
      rw [List.length_set]
      by_cases hi : i < g.length
      · rw [List.getD_eq_getElem?_getD, List.getElem?_eq_getElem hi]
        exact h.sq _ (List.getElem_mem hi)
      · unfold setc at hr
        rw [List.set_eq_of_length_le (by omega)] at hr
        have := h.sq _ hr
        rwa [List.length_set] at this
  · rcases List.mem_or_eq_of_mem_set hr with z | z
    · exact h.ok r z c hc
    · subst z
      rcases List.mem_or_eq_of_mem_set hc with y | y
      · by_cases hi : i < g.length
        · rw [List.getD_eq_getElem?_getD, List.getElem?_eq_getElem hi] at y
          exact h.ok _ (List.getElem_mem hi) c y
        · rw [List.getD_eq_getElem?_getD, List.getElem?_eq_none_iff.mpr (by omega)] at y
          simp at y
      · subst y
        intro u z
        cases z
theorem strike_ok {b : Nat} : ∀ (l : List (Int × Int)) {g : Gd}, OkG b g → OkG b (strike g l) ∧ (strike g l).length = g.length
  | [], _, h => ⟨h, rfl⟩
  | p :: l, g, h => by
    obtain ⟨h1, h2⟩ := setc_ok h p.1.toNat p.2.toNat
    obtain ⟨h3, h4⟩ := strike_ok l h1
    exact ⟨h3, h4.trans h2⟩
theorem strike_snoc (p : Int × Int) : ∀ (l : List (Int × Int)) (g : Gd), strike g (l ++ [p]) = setc (strike g l) p.1.toNat p.2.toNat
  | [], _ => rfl
  | q :: l, g => strike_snoc p l _
/-- the lot's cells lie in the grid -/
def InG (n : Nat) (l : List (Int × Int)) : Prop := ∀ p ∈ l, 0 ≤ p.1 ∧ p.1 < n ∧ 0 ≤ p.2 ∧ p.2 < n
section
variable {P : Program} {w : World} {K : PySem.W.Frag} {mg : Str → Option Value} {base : Heap}
def sp_struck (K : PySem.W.Frag) : Sp := fun vs H Q _ => ∃ x y, vs = [x, y] ∧ ∃ (b : Nat) (g : Gd) (l : List (Int × Int)), IsG K H x b g ∧ OkG b g ∧ Is K H y (lot l) ∧ InG g.length l ∧ l.length ≤ 100 ∧
  ∀ H' v, Same H H' → IsG K H' v b (strike g l) → Q v H'
abbrev n_struck : List Str := ["grid", "lot", "rows", "i", "j"]
theorem sc_struck : FnScope n_struck ["grid", "lot"] (defScope s_struck) := ⟨rfl, rfl, rfl, by decide +kernel, rfl, by decide +kernel, by decide +kernel⟩
theorem ok_struck (T : Txt K mg) : Ok P w K mg base "struck" ["grid", "lot"] 8 (sp_struck K) := by
  refine T.x_struck.ok sc_struck (fun _ _ _ _ _ _ us hl => match us, hl with | [_, _], _ => rfl) (fun vs H Q E h => by obtain ⟨_, _, rfl, _⟩ := h; rfl) (fun f cdv A outer s H vs Q E hr h => ?_)
  obtain ⟨_, y, rfl, b, g, l, ⟨a, dx, r, rfl, hp, hr0⟩, ok, hy, hl, hz, q⟩ := h
  obtain ⟨c, ys, rfl, ht, ha⟩ := hy.tup_ex
  have hyl : ys.length = l.length := by rw [ha.length, List.length_map]
  refine ⟨_, (pss_cons (ps_set (i := 2) sc_struck.nd rfl (.inl rfl) (pe_fld (pv 0) rfl))
    (pss_cons (ps_for PassesOwn.never rfl (pi_tup (pv 1)) (by refine pg2 (i := 3) (j := 4) K rfl sc_struck.nd ?_ ?_ ?_ ?_ ?_ ?_ ?_ <;> first | rfl | exact .inl rfl | exact .inr rfl)
      (pss_one (ps_set (i := 2) sc_struck.nd rfl (.inl rfl) (pc (ok_with_cell T) hr rfl (pa_cons (pv 2) (pa_cons (pv 3) (pa_cons (pv 4) (pa_cons pe_non pa_nil))))))))
    (pss_one (ps_ret (pmk (ok_Grid_init T) T hr rfl (pa_cons (pe_fld (pv 0) rfl) (pa_cons (pv 2) pa_nil))))))), ?_⟩
  dsimp only [tVar, tC, tAdd, tSub, tMul, t2I, tCmp, tIsN, tNotN, tB, tAnd, tOr, tNot, tAndV, tOrV, tNotV, tIf, tSeq, tNext, tDrop, tRet, tRetN, tIfS, tAsg, tAug, tPar, gName, gNil, gCons, gSub, tOp, tUn, tTest, tChain, tCons, tNil, tTup, tLst, tCall, tCB, tMake, tFld, sFld, tNoPart, tPart, tSl, tBM, tBM0, rI0, rI, tYes, Cx.nox, Cx.blk, cxOf, List.nil_append, List.cons_append]
  refine ⟨_, rfl, a, _, dx, _, _, rfl, hp, T.cls, T.nRows, rfl, ?_⟩
  refine forF (B := H) (feedT ht) (fun R r => ⟨_, rfl, c, rfl, ⟨_, ht⟩, r⟩)
    (fun i σ H' => (∃ v y3 y4, σ = [some (.ref a), some (.ref c), some v, y3, y4] ∧ Is K H' v (rws (strike g (l.take i)))) ∧ Same H H')
    ⟨⟨_, _, _, rfl, hr0⟩, Same.refl _⟩ (fun _ _ _ h => h.2) (fun i x σ H1 H2 hi hP s it => ?_) (fun σ H1 hP => ?_)
  · obtain ⟨⟨v, y3, y4, rfl, hv⟩, s1⟩ := hP
    obtain ⟨p, hpl, hpv⟩ := ha.getM' it
    obtain ⟨h1, h2, h3, h4⟩ := hl p (List.mem_of_getElem? hpl)
    refine gIs2 (hpv.same (s1.trans s)) fun v1 v2 i1 i2 => ?_
    have e1 := i1.int_eq
    have e2 := i2.int_eq
    subst e1 e2
    dsimp only [tVar, tC, tAdd, tSub, tMul, t2I, tCmp, tIsN, tNotN, tB, tAnd, tOr, tNot, tAndV, tOrV, tNotV, tIf, tSeq, tNext, tDrop, tRet, tRetN, tIfS, tAsg, tAug, tPar, gName, gNil, gCons, gSub, tOp, tUn, tTest, tChain, tCons, tNil, tTup, tLst, tCall, tCB, tMake, tFld, sFld, tNoPart, tPart, tSl, tBM, tBM0, rI0, rI, tYes, Cx.nox, Cx.blk, cxOf, List.nil_append, List.cons_append]
    obtain ⟨okS, lenS⟩ := strike_ok (l.take i) ok
    obtain ⟨r0, q1, q2, q3⟩ := okS.sqr.row (i := p.1.toNat) (by omega)
    refine ⟨_, rfl, _, rfl, _, rfl, _, _, _, _, rfl, strike g (l.take i), p.1.toNat, p.2.toNat, r0, none, hv.same s, by rw [Int.toNat_of_nonneg h1], by rw [Int.toNat_of_nonneg h3], .non, q1, by omega, okS.n2, by rw [q2]; exact okS.n2, fun H3 z s3 hz3 => ?_⟩
    refine ⟨⟨z, _, _, rfl, ?_⟩, (s1.trans s).trans s3⟩
    rw [take_succ hpl, strike_snoc]
    unfold setc
    rw [q3]
    exact hz3
  · obtain ⟨⟨v, y3, y4, rfl, hv⟩, s1⟩ := hP
    dsimp only [tVar, tC, tAdd, tSub, tMul, t2I, tCmp, tIsN, tNotN, tB, tAnd, tOr, tNot, tAndV, tOrV, tNotV, tIf, tSeq, tNext, tDrop, tRet, tRetN, tIfS, tAsg, tAug, tPar, gName, gNil, gCons, gSub, tOp, tUn, tTest, tChain, tCons, tNil, tTup, tLst, tCall, tCB, tMake, tFld, sFld, tNoPart, tPart, tSl, tBM, tBM0, rI0, rI, tYes, Cx.nox, Cx.blk, cxOf, List.nil_append, List.cons_append]
    rw [hyl, List.take_length] at hv
    refine ⟨_, rfl, a, _, dx, _, _, rfl, s1 _ _ hp, T.cls, T.nBases, rfl, _, rfl, ?_⟩
    exact r_grid hv (strike_ok l ok).1 fun H2 z s2 hz2 => q H2 z (s1.trans s2) hz2
/-- rows turned -/
def sp_turned_rows (K : PySem.W.Frag) : Sp := fun vs H Q _ => ∃ x, vs = [x] ∧ ∃ (l : Addr) (n b : Nat) (t : Gd), x = .ref l ∧ IsLL K H l (tcs t) ∧ Sq n b t ∧ n ≤ 10 ∧
  ∀ H' l', Same H H' → IsLL K H' l' (tcs (mk n fun i j => ce t j i)) → Q (.ref l') H'
theorem tcs_len {n b : Nat} {t : Gd} (h : Sq n b t) : (tcs t).length = n := by unfold tcs; rw [List.length_map, h.num]
abbrev n_turned_rows : List Str := ["rows", "place", "row"]
theorem sc_turned_rows : FnScope n_turned_rows ["rows"] (defScope s_turned_rows) := ⟨rfl, rfl, rfl, by decide +kernel, rfl, by decide +kernel, by decide +kernel⟩
theorem ok_turned_rows (T : Txt K mg) : Ok P w K mg base "turned_rows" ["rows"] 1 (sp_turned_rows K) := by
  refine T.x_turned_rows.ok sc_turned_rows (fun _ _ _ _ _ _ us hl => match us, hl with | [_], _ => rfl) (fun vs H Q E h => by obtain ⟨_, rfl, _⟩ := h; rfl) (fun f cdv A outer s H vs Q E hr h => ?_)
  obtain ⟨_, rfl, l, n, b, t, rfl, hl, sq, hn, q⟩ := h
  obtain ⟨zs, hz, hzl⟩ := hl.sq
  rw [tcs_len sq] at hzl
  refine ⟨_, (pss_one (ps_ret (pe_lc (own := [("place", 1)]) rfl sc_turned_rows.nd (pi_range1 rfl T.b_range (pa_cons (pe_callB call_lenO (by rfl) T.b_len bt_len (pa_cons (pv 0) pa_nil)) pa_nil)) (blkOk_by (N := n_turned_rows) (sc := (defScope s_turned_rows)) (by decide +kernel)) (fun _ _ _ _ _ => (pg_name (i := 1) sc_turned_rows.nd rfl (.inr rfl))) (fun _ _ _ _ _ => pts_nil) (fun _ _ _ _ _ => (pe_lc (own := [("row", 2)]) rfl sc_turned_rows.nd (pi_listK K (by rfl) (pv 0)) (blkOk_by (N := n_turned_rows) (sc := { kind := ScopeKind.function, names := [(Str.ofString ".0", NameKind.local), (Str.ofString "place", NameKind.cell), (Str.ofString "rows", NameKind.cell)], isGenerator := false, isCoroutine := false }) (by decide +kernel)) (fun _ _ _ _ _ => (pg_name (i := 2) sc_turned_rows.nd rfl (.inl rfl))) (fun _ _ _ _ _ => pts_nil) (fun _ _ _ _ _ => (pe_ix (ix_listK K (by rfl)) (pv 2) (pv 1) (fun _ _ => rfl)))))))), ?_⟩
  dsimp only [tVar, tC, tAdd, tSub, tMul, t2I, tCmp, tIsN, tNotN, tB, tAnd, tOr, tNot, tAndV, tOrV, tNotV, tIf, tSeq, tNext, tDrop, tRet, tRetN, tIfS, tAsg, tAug, tPar, gName, gNil, gCons, gSub, tOp, tUn, tTest, tChain, tCons, tNil, tTup, tLst, tCall, tCB, tMake, tFld, sFld, tNoPart, tPart, tSl, tBM, tBM0, rI0, rI, tYes, Cx.nox, Cx.blk, cxOf, List.nil_append, List.cons_append]
  refine lcF (H := H) (B := H) (feedR 0 n) (fun R r => ?_)
    (fun L i acc H' => Same H H' ∧ IsLL K H' L (((List.range n).map fun i => (List.range n).map fun j => cel (ce t j i)).take i))
    (fun L hL => ⟨same_upd hL, IsLL.nil hL⟩) (fun _ _ _ _ h => h.1) (fun L i x acc H2 H' hL hi hP ha hle s it => ?_) (fun L acc H2 hL hP ha _ => ?_)
  · dsimp only [tVar, tC, tAdd, tSub, tMul, t2I, tCmp, tIsN, tNotN, tB, tAnd, tOr, tNot, tAndV, tOrV, tNotV, tIf, tSeq, tNext, tDrop, tRet, tRetN, tIfS, tAsg, tAug, tPar, gName, gNil, gCons, gSub, tOp, tUn, tTest, tChain, tCons, tNil, tTup, tLst, tCall, tCB, tMake, tFld, sFld, tNoPart, tPart, tSl, tBM, tBM0, rI0, rI, tYes, Cx.nox, Cx.blk, cxOf, List.nil_append, List.cons_append, iRng1]
    exact ⟨_, rfl, _, _, rfl, by have := hl.len; rwa [tcs_len sq] at this, _, rfl, by omega, by omega, r⟩
  · subst it
    have hs := hP.1.trans s
    dsimp only [tVar, tC, tAdd, tSub, tMul, t2I, tCmp, tIsN, tNotN, tB, tAnd, tOr, tNot, tAndV, tOrV, tNotV, tIf, tSeq, tNext, tDrop, tRet, tRetN, tIfS, tAsg, tAug, tPar, gName, gNil, gCons, gSub, tOp, tUn, tTest, tChain, tCons, tNil, tTup, tLst, tCall, tCB, tMake, tFld, sFld, tNoPart, tPart, tSl, tBM, tBM0, rI0, rI, tYes, Cx.nox, Cx.blk, cxOf, List.nil_append, List.cons_append]
    refine ⟨rfl, ifT rfl ?_⟩
    refine lcM (K := K) (H := H') (f := fun j => cel (ce t j i)) (feedL (SqL.of (hs _ _ hz))) (fun R r => ⟨_, rfl, l, rfl, ⟨_, SqL.of (hs _ _ hz)⟩, r⟩) (fun L2 j x acc2 H3 H4 hL2 hj hp hl2 hle2 s2 it2 => ?_) (fun L2 H3 hL2 s2 hi2 => ?_)
    · obtain ⟨a, ds, rfl, hds, hla⟩ := hl.row_of hz it2
      have hjn : j < n := by omega
      obtain ⟨r, hr1, hr2, hr3⟩ := tcs_row sq hjn
      rw [hr1] at hds
      cases hds
      dsimp only [tVar, tC, tAdd, tSub, tMul, t2I, tCmp, tIsN, tNotN, tB, tAnd, tOr, tNot, tAndV, tOrV, tNotV, tIf, tSeq, tNext, tDrop, tRet, tRetN, tIfS, tAsg, tAug, tPar, gName, gNil, gCons, gSub, tOp, tUn, tTest, tChain, tCons, tNil, tTup, tLst, tCall, tCB, tMake, tFld, sFld, tNoPart, tPart, tSl, tBM, tBM0, rI0, rI, tYes, Cx.nox, Cx.blk, cxOf, List.nil_append, List.cons_append]
      refine ⟨rfl, ifT rfl ⟨_, rfl, _, rfl, r_ixLn rfl ((hla.same hs).same (hp.1.trans s2)) (by rw [Int.zero_add]) (by rw [List.getElem?_map, hr3 i hi]; rfl) fun v hv => ?_⟩⟩
      exact hp.got hL2 hl2 s2 hle2 (lt_line (by omega)) hv
    · rw [hzl] at hi2
      have h1 := hP.2.same s
      have e := s2 _ _ (s _ _ ha)
      have hp := IsLL.push h1 s2 hL2 hi2 e
      refine LcGot.mk e hle (lt_line (by omega)) ⟨(hs.trans s2).out hL, ?_⟩
      rw [take_range _ hi]
      exact hp.2
  · rw [take_all] at hP
    refine q _ _ hP.1 ?_
    rw [tcs_mk]
    exact hP.2
end
end UG
end
section
/-! Unitgrids, scripts.py and heights.py: what leads to what, the ties that stand on rings. -/
namespace UG
open PySem PySem.Spec PyProof.Rows L2 RZ UM
/-! ### what leads to what: reckoned over the middles -/
def wsh (R : Nat → Nat → Bool) : Nat → Nat → Nat → Bool
  | 0, i, j => R i j
  | m + 1, i, j => wsh R m i j || (wsh R m i m && wsh R m m j)
theorem wsh_mono {R : Nat → Nat → Bool} {i j : Nat} (h : R i j = true) : ∀ m, wsh R m i j = true
  | 0 => h
  | m + 1 => by
    show (wsh R m i j || _) = true
    rw [wsh_mono h m, Bool.true_or]
theorem wsh_tc {R : Nat → Nat → Bool} : ∀ (m : Nat) {i j : Nat}, wsh R m i j = true → Tc (fun a b => R a b = true) i j
  | 0, _, _, h => .one h
  | m + 1, i, j, h => by
    simp only [wsh, Bool.or_eq_true, Bool.and_eq_true] at h
    rcases h with h | ⟨h1, h2⟩
    · exact wsh_tc m h
    · exact (wsh_tc m h1).trans (wsh_tc m h2)
theorem wsh_trans {R : Nat → Nat → Bool} : ∀ (m : Nat) {i k j : Nat}, k < m → wsh R m i k = true → wsh R m k j = true → wsh R m i j = true
  | 0, _, _, _, h, _, _ => absurd h (Nat.not_lt_zero _)
  | m + 1, i, k, j, hk, h1, h2 => by
    simp only [wsh, Bool.or_eq_true, Bool.and_eq_true] at h1 h2 ⊢
    by_cases e : k = m
    · subst e
      have a : wsh R k i k = true := h1.elim id fun z => z.1
      have b : wsh R k k j = true := h2.elim id fun z => z.2
      exact .inr ⟨a, b⟩
    · have hk : k < m := by omega
      rcases h1 with h1 | ⟨h1, h1'⟩ <;> rcases h2 with h2 | ⟨h2, h2'⟩
      · exact .inl (wsh_trans m hk h1 h2)
      · exact .inr ⟨wsh_trans m hk h1 h2, h2'⟩
      · exact .inr ⟨h1, wsh_trans m hk h1' h2⟩
      · exact .inr ⟨h1, h2'⟩
theorem wsh_row {R : Nat → Nat → Bool} (m j : Nat) : wsh R (m + 1) m j = wsh R m m j := by
  simp only [wsh]
  cases wsh R m m j <;> simp
theorem wsh_col {R : Nat → Nat → Bool} (m i : Nat) : wsh R (m + 1) i m = wsh R m i m := by
  simp only [wsh]
  cases wsh R m i m <;> simp
/-! ### squares of truth values -/
def bm (n : Nat) (F : Nat → Nat → Bool) : List (List PyData) := (List.range n).map fun i => (List.range n).map fun j => PyData.bool (F i j)
theorem range_congr {α : Type} {n : Nat} {f g : Nat → α} (h : ∀ i, i < n → f i = g i) : (List.range n).map f = (List.range n).map g := List.map_congr_left fun i hi => h i (List.mem_range.mp hi)
theorem bm_congr {n : Nat} {F G : Nat → Nat → Bool} (h : ∀ i j, i < n → j < n → F i j = G i j) : bm n F = bm n G := by
  unfold bm
  exact range_congr fun i hi => range_congr fun j hj => by rw [h i j hi hj]
theorem range_set {α : Type} {n i : Nat} (f : Nat → α) (x : α) (hi : i < n) : ((List.range n).map f).set i x = (List.range n).map fun k => if k = i then x else f k := by
  apply List.ext_getElem?
  intro k
  by_cases hk : k < n
  · rw [List.getElem?_map, List.getElem?_range hk]
    by_cases e : k = i
    · subst e
      rw [List.getElem?_set_self (by simp; exact hk)]
      simp
    · rw [List.getElem?_set_ne (Ne.symm e), List.getElem?_map, List.getElem?_range hk]
      simp [e]
  · rw [List.getElem?_eq_none_iff.mpr (by simp; omega), List.getElem?_eq_none_iff.mpr (by simp; omega)]
theorem range_get {α : Type} {n i : Nat} (f : Nat → α) (hi : i < n) : ((List.range n).map f)[i]? = some (f i) := by
  rw [List.getElem?_map, List.getElem?_range hi]
  rfl
theorem bm_set {n i j : Nat} (F : Nat → Nat → Bool) (v : Bool) (hi : i < n) (hj : j < n) : (bm n F).set i (((List.range n).map fun j => PyData.bool (F i j)).set j (.bool v)) = bm n fun a c => if a = i ∧ c = j then v else F a c := by
  unfold bm
  rw [range_set _ _ hi]
  refine range_congr fun a ha => ?_
  by_cases e : a = i
  · subst e
    rw [if_pos rfl, range_set _ _ hj]
    refine range_congr fun c hc => ?_
    show _ = PyData.bool (if a = a ∧ c = j then v else F a c)
    by_cases e2 : c = j
    · rw [if_pos e2, if_pos ⟨rfl, e2⟩]
    · rw [if_neg e2, if_neg fun z => e2 z.2]
  · rw [if_neg e]
    refine range_congr fun c hc => ?_
    show _ = PyData.bool (if a = i ∧ c = j then v else F a c)
    rw [if_neg fun z => e z.1]
section
variable {K : PySem.W.Frag} {B H H' : Hp}
/-- a list of lists of our own -/
def Own (B H : Hp) (f : Addr) : Prop := B f = none ∧ ∀ xs, H f = some (.lst xs) → ∀ a, V.ref a ∈ xs → B a = none
theorem Own.same {f : Addr} {rows : List (List PyData)} (h : Own B H f) (l : IsLL K H f rows) (s : Same H H') : Own B H' f := ⟨h.1, fun xs e a ha => by
  obtain ⟨ys, e1, _⟩ := l.sq
  have e2 := s _ _ e1
  rw [e] at e2
  cases e2
  exact h.2 _ e1 a ha⟩
theorem IsLL.own_row {f : Addr} {rows : List (List PyData)} {i : Nat} {ds : List PyData} (h : IsLL K H f rows) (o : Own B H f) (hi : rows[i]? = some ds) :
    ∃ a xs ys, H f = some (.lst xs) ∧ xs[i]? = some (.ref a) ∧ H a = some (.lst ys) ∧ ys.length = ds.length ∧ B a = none ∧ IsL K H a ds ∧ ∀ j v d, Is K H v d → IsLL K (upd H a (.lst (ys.set j v))) f (rows.set i (ds.set j d)) ∧ Own B (upd H a (.lst (ys.set j v))) f := by
  obtain ⟨ls, e, h1, h3, h2⟩ := h
  have hlt : i < ls.length := by rw [h1]; exact (List.getElem?_eq_some_iff.mp hi).1
  have hia := List.getElem?_eq_getElem hlt
  obtain ⟨ys, q1, q2⟩ := h2 i _ ds hia hi
  have hm : V.ref ls[i] ∈ ls.map V.ref := List.mem_map.mpr ⟨_, List.getElem_mem hlt, rfl⟩
  have ne : f ≠ ls[i] := fun z => (List.nodup_cons.mp h3).1 (z ▸ List.getElem_mem hlt)
  refine ⟨ls[i], _, ys, e, by rw [List.getElem?_map, hia]; rfl, q1, q2.length, o.2 _ e _ hm, ⟨ys, q1, q2⟩, fun j v d hv => ⟨⟨ls, by rw [upd_ne ne]; exact e, by rw [List.length_set]; exact h1, h3, fun k a d' g1 g2 => ?_⟩, o.1, fun xs g a ha => ?_⟩⟩
  · by_cases ek : k = i
    · subst ek
      rw [hia] at g1
      cases g1
      rw [List.getElem?_set_self (by omega)] at g2
      cases g2
      exact IsL.put q1 (q2.set hv j)
    · rw [List.getElem?_set_ne (Ne.symm ek)] at g2
      have ne2 : a ≠ ls[i] := fun z => by
        obtain ⟨hk, ek2⟩ := List.getElem?_eq_some_iff.mp g1
        exact ek ((List.getElem_inj (List.nodup_cons.mp h3).2).mp (ek2.trans z))
      exact (h2 k a d' g1 g2).ne (Tk.lst q1) ne2
  · rw [upd_ne ne, e] at g
    cases g
    exact o.2 _ e a ha
end
section
variable {P : Program} {w : World} {K : PySem.W.Frag} {mg : Str → Option Value} {base : Heap}
def sp_reached_by (K : PySem.W.Frag) : Sp := fun vs H Q _ => ∃ x, vs = [x] ∧ ∃ (l : Addr) (n : Nat) (R : Nat → Nat → Bool), x = .ref l ∧ IsLL K H l (bm n R) ∧ n ≤ 10 ∧ ∀ H' l', Same H H' → IsLL K H' l' (bm n (wsh R n)) → Q (.ref l') H'
theorem bm_len (n : Nat) (F : Nat → Nat → Bool) : (bm n F).length = n := by unfold bm; simp
theorem bm_row {n i : Nat} (F : Nat → Nat → Bool) (hi : i < n) : (bm n F)[i]? = some ((List.range n).map fun j => PyData.bool (F i j)) := range_get _ hi
abbrev n_reached_by : List Str := ["rows", "many", "found", "middle", "one", "other", "row"]
theorem sc_reached_by : FnScope n_reached_by ["rows"] (defScope s_reached_by) := ⟨rfl, rfl, rfl, by decide +kernel, rfl, by decide +kernel, by decide +kernel⟩
theorem ok_reached_by (T : Txt K mg) : Ok P w K mg base "reached_by" ["rows"] 1 (sp_reached_by K) := by
  refine T.x_reached_by.ok sc_reached_by (fun _ _ _ _ _ _ us hl => match us, hl with | [_], _ => rfl) (fun vs H Q E h => by obtain ⟨_, rfl, _⟩ := h; rfl) (fun f cdv A outer s H vs Q E hr h => ?_)
  obtain ⟨_, rfl, l, n, R, rfl, hl, hn, q⟩ := h
  obtain ⟨zs, hz, hzl⟩ := hl.sq
  rw [bm_len] at hzl
  refine ⟨_, (pss_cons (ps_set (i := 1) sc_reached_by.nd rfl (.inl rfl) (pe_callB call_lenO (by rfl) T.b_len bt_len (pa_cons (pv 0) pa_nil)))
    (pss_cons (ps_setLc (i := 2) (own := [("row", 6)]) rfl sc_reached_by.nd rfl rfl (sw_true rfl rfl rfl (by decide +kernel)) (pi_list (pv 0)) (blkOk_by (N := n_reached_by) (sc := (defScope s_reached_by)) (by decide +kernel)) (fun _ _ _ _ _ => (pg_name (i := 6) sc_reached_by.nd rfl (.inl rfl))) (fun _ _ _ _ _ => pts_nil) (fun _ _ _ _ _ => (pe_callTy (call_list_ofK K (by rfl)) (by rfl) T.b_list bt_list (pa_cons (pv 6) pa_nil))))
    (pss_cons (ps_for PassesOwn.never rfl (pi_range1 rfl T.b_range (pa_cons (pv 1) pa_nil)) (pg_name (i := 3) sc_reached_by.nd rfl (.inl rfl))
      (pss_one (ps_for PassesOwn.never rfl (pi_range1 rfl T.b_range (pa_cons (pv 1) pa_nil)) (pg_name (i := 4) sc_reached_by.nd rfl (.inl rfl))
        (pss_one (ps_if (pt_val (pe_ix ix_list (pe_ix ix_list (pv 2) (pv 4) (fun _ _ => rfl)) (pv 3) (fun _ _ => rfl)))
          (pss_one (ps_for PassesOwn.never rfl (pi_range1 rfl T.b_range (pa_cons (pv 1) pa_nil)) (pg_name (i := 5) sc_reached_by.nd rfl (.inl rfl))
            (pss_one (ps_asg (pe_or (pe_ix ix_list (pe_ix ix_list (pv 2) (pv 4) (fun _ _ => rfl)) (pv 5) (fun _ _ => rfl)) (pe_one (pe_ix ix_list (pe_ix ix_list (pv 2) (pv 3) (fun _ _ => rfl)) (pv 5) (fun _ _ => rfl)))) (pg_sub (pe_ix ix_list (pv 2) (pv 4) (fun _ _ => rfl)) (pv 5) set_list)))))
          pss_nil)))))
    (pss_one (ps_ret (pv 2)))))), ?_⟩
  dsimp only [tVar, tC, tAdd, tSub, tMul, t2I, tCmp, tIsN, tNotN, tB, tAnd, tOr, tNot, tAndV, tOrV, tNotV, tIf, tSeq, tNext, tDrop, tRet, tRetN, tIfS, tAsg, tAug, tPar, gName, gNil, gCons, gSub, tOp, tUn, tTest, tChain, tCons, tNil, tTup, tLst, tCall, tCB, tMake, tFld, sFld, tNoPart, tPart, tSl, tBM, tBM0, rI0, rI, tYes, Cx.nox, Cx.blk, cxOf, List.nil_append, List.cons_append]
  refine ⟨_, rfl, _, _, rfl, by have := hl.len; rwa [bm_len] at this, ?_⟩
  refine lcF (H := H) (B := H) (feedL (SqL.of hz)) (fun R' r => ⟨_, rfl, l, rfl, ⟨_, SqL.of hz⟩, r⟩)
    (fun L i acc H' => Same H H' ∧ IsLL K H' L ((bm n R).take i) ∧ ∀ a, V.ref a ∈ acc → H a = none)
    (fun L hL => ⟨same_upd hL, IsLL.nil hL, fun a ha => nomatch ha⟩) (fun _ _ _ _ h => h.1) (fun L i x acc H2 H' hL hi hP ha hle s it => ?_) (fun L acc H2 hL hP ha _ => ?_)
  · obtain ⟨s1, hL2, ho⟩ := hP
    obtain ⟨a, ds, rfl, hds, hla⟩ := hl.row_of hz it
    obtain ⟨ys, hys, hya⟩ := (hla.same s1).same s
    dsimp only [tVar, tC, tAdd, tSub, tMul, t2I, tCmp, tIsN, tNotN, tB, tAnd, tOr, tNot, tAndV, tOrV, tNotV, tIf, tSeq, tNext, tDrop, tRet, tRetN, tIfS, tAsg, tAug, tPar, gName, gNil, gCons, gSub, tOp, tUn, tTest, tChain, tCons, tNil, tTup, tLst, tCall, tCB, tMake, tFld, sFld, tNoPart, tPart, tSl, tBM, tBM0, rI0, rI, tYes, Cx.nox, Cx.blk, cxOf, List.nil_append, List.cons_append]
    refine ⟨rfl, ifT rfl ⟨_, rfl, a, ys, rfl, .inl (SqL.of hys), fun c nc => ?_⟩⟩
    have h1 := hL2.same s
    have e := (same_upd (o := .lst ys) nc) _ _ (s _ _ ha)
    have hp := IsLL.push h1 (same_upd nc) nc (IsL.mk nc hya) e
    refine LcGot.mk e hle (lt_line (by omega)) ⟨(((s1.trans s).new nc)).out hL, ?_, fun b hb => ?_⟩
    · rw [take_succ hds]
      exact hp.2
    · rcases List.mem_append.mp hb with z | z
      · exact ho b z
      · simp only [List.mem_singleton, V.ref.injEq] at z
        subst z
        exact (s1.trans s).free nc
  · obtain ⟨s1, hL2, ho⟩ := hP
    rw [List.take_of_length_le (by rw [bm_len]; omega)] at hL2
    have own : Own H H2 L := ⟨hL, fun xs e a h => by rw [ha] at e; cases e; exact ho a h⟩
    refine forF (B := H) (feedR 0 n) (fun R r => ⟨_, rfl, _, rfl, by omega, by omega, r⟩)
      (fun m σ H' => (∃ y3 y4 y5 y6, σ = [some (.ref l), some (.int (n : Nat)), some (.ref L), y3, y4, y5, y6]) ∧ Same H H' ∧ Own H H' L ∧ IsLL K H' L (bm n (wsh R m)))
      ⟨⟨_, _, _, _, rfl⟩, s1, own, hL2⟩ (fun _ _ _ h => h.2.1) (fun m x σ H3 H4 hm hP s it => ?_) (fun σ H3 hP => ?_)
    · obtain ⟨⟨y3, y4, y5, y6, rfl⟩, s3, own, hf⟩ := hP
      subst it
      rw [Int.zero_add]
      dsimp only [tVar, tC, tAdd, tSub, tMul, t2I, tCmp, tIsN, tNotN, tB, tAnd, tOr, tNot, tAndV, tOrV, tNotV, tIf, tSeq, tNext, tDrop, tRet, tRetN, tIfS, tAsg, tAug, tPar, gName, gNil, gCons, gSub, tOp, tUn, tTest, tChain, tCons, tNil, tTup, tLst, tCall, tCB, tMake, tFld, sFld, tNoPart, tPart, tSl, tBM, tBM0, rI0, rI, tYes, Cx.nox, Cx.blk, cxOf, List.nil_append, List.cons_append]
      refine forF (B := H) (feedR 0 n) (fun R r => ⟨_, rfl, _, rfl, by omega, by omega, r⟩)
        (fun o σ H' => (∃ y4 y5 y6, σ = [some (.ref l), some (.int (n : Nat)), some (.ref L), some (.int (m : Nat)), y4, y5, y6]) ∧ Same H H' ∧ Own H H' L ∧ IsLL K H' L (bm n fun i j => if i < o then wsh R (m + 1) i j else wsh R m i j))
        ⟨⟨_, _, _, rfl⟩, s3.trans s, own.same hf s, by
          have e : (bm n fun i j => if i < 0 then wsh R (m + 1) i j else wsh R m i j) = bm n (wsh R m) := bm_congr fun i j _ _ => rfl
          rw [e]
          exact hf.same s⟩ (fun _ _ _ h => h.2.1) (fun o x σ H5 H6 ho hP s5 it => ?_) (fun σ H5 hP => ?_)
      · obtain ⟨⟨y4, y5, y6, rfl⟩, s6, own, hf⟩ := hP
        subst it
        rw [Int.zero_add]
        dsimp only [tVar, tC, tAdd, tSub, tMul, t2I, tCmp, tIsN, tNotN, tB, tAnd, tOr, tNot, tAndV, tOrV, tNotV, tIf, tSeq, tNext, tDrop, tRet, tRetN, tIfS, tAsg, tAug, tPar, gName, gNil, gCons, gSub, tOp, tUn, tTest, tChain, tCons, tNil, tTup, tLst, tCall, tCB, tMake, tFld, sFld, tNoPart, tPart, tSl, tBM, tBM0, rI0, rI, tYes, Cx.nox, Cx.blk, cxOf, List.nil_append, List.cons_append]
        have hf := hf.same s5
        have own := own.same (H' := H6) (rows := bm n fun i j => if i < o then wsh R (m + 1) i j else wsh R m i j) (by assumption) s5
        have s6 := s6.trans s5
        -- found[one][middle]
        refine ⟨_, rfl, _, rfl, r_ixLL rfl hf rfl (bm_row _ ho) fun a ha => ⟨_, rfl, r_ixLn rfl ha rfl (range_get _ hm) fun v hv => ⟨_, hv.bl_eq, ?_⟩⟩⟩
        rw [if_neg (Nat.lt_irrefl o)]
        by_cases hom : wsh R m o m = true
        · refine ifT hom ?_
          refine forF (B := H) (feedR 0 n) (fun R r => ⟨_, rfl, _, rfl, by omega, by omega, r⟩)
            (fun k σ H' => (∃ y5 y6, σ = [some (.ref l), some (.int (n : Nat)), some (.ref L), some (.int (m : Nat)), some (.int (o : Nat)), y5, y6]) ∧ Same H H' ∧ Own H H' L ∧ IsLL K H' L (bm n fun i j => if i < o ∨ (i = o ∧ j < k) then wsh R (m + 1) i j else wsh R m i j))
            ⟨⟨_, _, rfl⟩, s6, own, by
              have e : (bm n fun i j => if i < o ∨ (i = o ∧ j < 0) then wsh R (m + 1) i j else wsh R m i j) = bm n fun i j => if i < o then wsh R (m + 1) i j else wsh R m i j := bm_congr fun i j _ _ => by simp
              rw [e]
              exact hf⟩ (fun _ _ _ h => h.2.1) (fun k x σ H7 H8 hk hP s7 it => ?_) (fun σ H7 hP => ?_)
          · obtain ⟨⟨y5, y6, rfl⟩, s8, own, hf⟩ := hP
            subst it
            rw [Int.zero_add]
            dsimp only [tVar, tC, tAdd, tSub, tMul, t2I, tCmp, tIsN, tNotN, tB, tAnd, tOr, tNot, tAndV, tOrV, tNotV, tIf, tSeq, tNext, tDrop, tRet, tRetN, tIfS, tAsg, tAug, tPar, gName, gNil, gCons, gSub, tOp, tUn, tTest, tChain, tCons, tNil, tTup, tLst, tCall, tCB, tMake, tFld, sFld, tNoPart, tPart, tSl, tBM, tBM0, rI0, rI, tYes, Cx.nox, Cx.blk, cxOf, List.nil_append, List.cons_append]
            have own := own.same hf s7
            have hf := hf.same s7
            have s8 := s8.trans s7
            generalize hF : (fun i j => if i < o ∨ (i = o ∧ j < k) then wsh R (m + 1) i j else wsh R m i j) = F at own hf
            have f1 : F o k = wsh R m o k := by rw [← hF]; simp
            have f2 : F m k = wsh R m m k := by
              rw [← hF]
              show (if m < o ∨ (m = o ∧ k < k) then wsh R (m + 1) m k else wsh R m m k) = _
              rw [wsh_row]
              split <;> rfl
            -- the store
            have fin : ∀ t : Bool, t = wsh R (m + 1) o k → ∃ v, [some (.ref l), some (.int (n : Nat)), some (.ref L), some (.int (m : Nat)), some (.int (o : Nat)), some (.int (k : Nat)), y6][2]? = some (some v) ∧ ∃ v_1, [some (.ref l), some (.int (n : Nat)), some (.ref L), some (.int (m : Nat)), some (.int (o : Nat)), some (.int (k : Nat)), y6][4]? = some (some v_1) ∧ rIxL K v v_1 H8 fun o' H1 => ∃ v, [some (.ref l), some (.int (n : Nat)), some (.ref L), some (.int (m : Nat)), some (.int (o : Nat)), some (.int (k : Nat)), y6][5]? = some (some v) ∧
                rSetL o' v (.bl t) H1 fun H3 => (∃ y5 y6', [some (.ref l), some (.int (n : Nat)), some (.ref L), some (.int (m : Nat)), some (.int (o : Nat)), some (.int (k : Nat)), y6] = [some (.ref l), some (.int (n : Nat)), some (.ref L), some (.int (m : Nat)), some (.int (o : Nat)), y5, y6']) ∧ Same H H3 ∧ Own H H3 L ∧ IsLL K H3 L (bm n fun i j => if i < o ∨ (i = o ∧ j < k + 1) then wsh R (m + 1) i j else wsh R m i j) := by
              intro t ht
              obtain ⟨a, xs, ys, g1, g2, g3, g4, g5, g6, g7⟩ := hf.own_row own (bm_row F ho)
              obtain ⟨g8, g9⟩ := g7 k (.bl t) (.bool t) (.bl t)
              have hky : k < ys.length := by rw [g4]; simp; exact hk
              refine ⟨_, rfl, _, rfl, L, xs, _, _, rfl, rfl, SqL.of g1, atI_nat g2, _, rfl, a, ys, _, k, rfl, rfl, g3, ixN_nat hky, ⟨_, _, rfl⟩, s8.out g5, g9, ?_⟩
              rw [bm_set F t ho hk] at g8
              have e : (bm n fun a c => if a = o ∧ c = k then t else F a c) = bm n fun i j => if i < o ∨ (i = o ∧ j < k + 1) then wsh R (m + 1) i j else wsh R m i j := bm_congr fun i j _ _ => by
                by_cases h1 : i = o ∧ j = k
                · rw [if_pos h1, ht, h1.1, h1.2, if_pos (.inr ⟨rfl, Nat.lt_succ_self k⟩)]
                · rw [if_neg h1, ← hF]
                  show (if i < o ∨ (i = o ∧ j < k) then wsh R (m + 1) i j else wsh R m i j) = _
                  have : (i < o ∨ (i = o ∧ j < k)) ↔ (i < o ∨ (i = o ∧ j < k + 1)) := by omega
                  by_cases h2 : i < o ∨ (i = o ∧ j < k)
                  · rw [if_pos h2, if_pos (this.mp h2)]
                  · rw [if_neg h2, if_neg fun z => h2 (this.mpr z)]
              rw [← e]
              exact g8
            refine ⟨_, rfl, _, rfl, r_ixLL rfl hf rfl (bm_row _ ho) fun a ha => ⟨_, rfl, r_ixLn rfl ha rfl (range_get _ hk) fun v hv => ⟨_, hv.bl_eq, ?_⟩⟩⟩
            rw [f1]
            by_cases hok : wsh R m o k = true
            · refine ifT hok (fin true ?_)
              simp only [wsh, hok, Bool.true_or]
            · refine ifF (by simpa using hok) ?_
              refine ⟨_, rfl, _, rfl, r_ixLL rfl hf rfl (bm_row _ hm) fun a ha => ⟨_, rfl, r_ixLn rfl ha rfl (range_get _ hk) fun v hv => ?_⟩⟩
              have e := hv.bl_eq
              subst e
              rw [f2]
              refine fin _ ?_
              have : wsh R m o k = false := by simpa using hok
              simp only [wsh, this, hom, Bool.false_or, Bool.true_and]
          · obtain ⟨⟨y5, y6, rfl⟩, s8, own, hf⟩ := hP
            refine ⟨⟨_, _, _, rfl⟩, s8, own, ?_⟩
            have e : (bm n fun i j => if i < o ∨ (i = o ∧ j < n) then wsh R (m + 1) i j else wsh R m i j) = bm n fun i j => if i < o + 1 then wsh R (m + 1) i j else wsh R m i j := bm_congr fun i j _ hj => by
              have : (i < o ∨ (i = o ∧ j < n)) ↔ i < o + 1 := by omega
              by_cases h2 : i < o + 1
              · rw [if_pos h2, if_pos (this.mpr h2)]
              · rw [if_neg h2, if_neg fun z => h2 (this.mp z)]
            rw [← e]
            exact hf
        · refine ifF (by simpa using hom) ⟨⟨_, _, _, rfl⟩, s6, own, ?_⟩
          have e : (bm n fun i j => if i < o then wsh R (m + 1) i j else wsh R m i j) = bm n fun i j => if i < o + 1 then wsh R (m + 1) i j else wsh R m i j := bm_congr fun i j _ hj => by
            by_cases h2 : i = o
            · subst h2
              rw [if_neg (Nat.lt_irrefl _), if_pos (Nat.lt_succ_self _)]
              have : wsh R m i m = false := by simpa using hom
              simp only [wsh, this, Bool.false_and, Bool.or_false]
            · have : i < o ↔ i < o + 1 := by omega
              by_cases h3 : i < o
              · rw [if_pos h3, if_pos (this.mp h3)]
              · rw [if_neg h3, if_neg fun z => h3 (this.mpr z)]
          rw [← e]
          exact hf
      · obtain ⟨⟨y4, y5, y6, rfl⟩, s6, own, hf⟩ := hP
        refine ⟨⟨_, _, _, _, rfl⟩, s6, own, ?_⟩
        have e : (bm n fun i j => if i < n then wsh R (m + 1) i j else wsh R m i j) = bm n (wsh R (m + 1)) := bm_congr fun i j hi _ => if_pos hi
        rw [← e]
        exact hf
    · obtain ⟨⟨y3, y4, y5, y6, rfl⟩, s3, own, hf⟩ := hP
      exact ⟨_, rfl, q _ _ s3 hf⟩
end
end UG
end
section
/-! Unitgrids, rules that the layer lacks: a tuple that is known to have no dict and its index, the least of a row, pairs compared and looked for. -/
namespace UG
open PySem PySem.Spec PyProof.Rows L2 RZ
open PySem.W (Datum DatumOrd Tup Holds HoldAll)
/-! ### a tuple made by tuple(), known as an object -/
/-- the tuple at v has no dict -/
def NoD (H : Hp) (v : V) : Prop := ∃ a o xs, v = .ref a ∧ H a = some (.frz o (.tup xs)) ∧ o.dict = none
theorem NoD.same {H H' : Hp} {v : V} (s : Same H H') (h : NoD H v) : NoD H' v := let ⟨a, o, xs, e, h1, h2⟩ := h; ⟨a, o, xs, e, s _ _ h1, h2⟩
theorem NoD.at {H : Hp} {v : V} {l : Addr} {xs : List V} {o : HO} (e : H l = some (.lst xs)) (h : NoD H v) : NoD (upd H l o) v := by
  obtain ⟨a, ob, ys, rfl, h1, h2⟩ := h
  have ne : a ≠ l := fun z => by rw [z, e] at h1; cases h1
  exact ⟨a, ob, ys, rfl, by rw [upd_ne ne]; exact h1, h2⟩
section
variable {X : Cx}
/-- tuple(xs) of a list -/
def rTupN (K : PySem.W.Frag) : List V → Hp → VK → Prop := fun xs H Q => ∃ p ys, xs = [.ref p] ∧ SqL K H p ys ∧ ∀ l o, H l = none → o.dict = none → Q (.ref l) (upd H l (.frz o (.tup ys)))
theorem call_tupleN : CallR X (.type "tuple") (rTupN X.K) := by
  intro pins s σ H xs us Q I r h
  obtain ⟨p, ys, rfl, hq, q⟩ := h
  obtain ⟨u, rfl, rx⟩ := vals1 r
  cases rx
  obtain ⟨its, r', pl, hz⟩ := I.list hq
  have hlen := r'.length
  refine call_tuple_list pl.isList (fun h' kp => ?_) (by simp only [List.size_toArray] <;> omega)
  have I1 : Inv X pins σ H { s with heap := h' } := I.kept (t' := s.toks) kp
  have new : (h'.push { cls := .type "tuple", data := .seq its.toArray }).get? h'.objs.size = some { cls := .type "tuple", data := .seq its.toArray } := Heap.get?_push_size _ rfl
  have I2 : Inv X pins σ (upd H h'.objs.size (.frz { cls := .type "tuple", data := .seq its.toArray } (.tup ys))) { s with heap := h'.push { cls := .type "tuple", data := .seq its.toArray } } :=
    I1.laid (t' := s.toks) (fun b o e => Heap.get?_push_of_some _ e) (Nat.le_refl _) ⟨new, hz, its, r', IsTup.new _ _⟩
  exact ⟨.ref h'.objs.size, _, I2, rfl, q _ _ (I1.hok.fresh (Nat.le_refl _)) rfl⟩
/-- t.index(k), t such a tuple of ints -/
def tIndexT (to : TE) (t : TA) : TE := fun σ H Q => to σ H fun x H1 => NoD H1 x ∧ t σ H1 fun xs H2 => ∃ a o ns k, x = .ref a ∧ H2 a = some (.frz o (.tup (List.map V.int ns))) ∧ xs = [.int k] ∧ k ∈ ns ∧ Q (.int (ns.idxOf k : Nat)) H2
theorem pe_tindex (hc : X.calm = true) {o e : Expr} {es : List Expr} {to : TE} {t : TA} {apos cpos : Pos} (ho : PE X o to) (ha : PA X (e :: es) t)
    (hbase : attributeBase o "index" X.env (eval o X.env) = eval o X.env := by rfl)
    (hfew : ((backTo cpos (starEach (e :: es) X.env)).all (fun x => !x.1) && (backToKw cpos (keywordEach [] X.env)).all (fun x => x.1.isSome)
      && decide ((e :: es).length + ([] : List Keyword).length + (if ([] : List Keyword).isEmpty then 0 else 1) < 30)) = true := by rfl)
    (hline : (apos.endLine == cpos.line) = true := by rfl) (hs : starEach (e :: es) X.env = (false, eval e X.env) :: starEach es X.env := by rfl) (hplain : (backTo cpos (starEach es X.env)).any (·.1) = false := by rfl) :
    PE X (.Call (.Attribute o "index" apos) (e :: es) [] cpos) (tIndexT to t) := by
  refine ⟨fun pins s σ H Q I h => ?_⟩
  refine wpAny_Call_method_late hbase hfew hline rfl (thn (ho.run pins s σ H _ I h) fun v s1 ⟨x, H1, I1, r1, ty, q1⟩ => ?_)
  obtain ⟨a, ob, ys, rfl, hf, hd⟩ := ty
  cases r1
  obtain ⟨hob, hz, its, rv, tp⟩ := I1.hok a _ hf
  refine ⟨"tuple", "tuple.index", PySem.F.plainAttrs_tuple, PySem.F.slot_tuple_index, PySem.F.type_tuple_index, tp.typeIs, fun b e => by cases e; exact ⟨ob, hob, hd⟩, ?_⟩
  have hA := ha.run cpos pins s1 σ H1 _ I1 q1
  rw [hs] at hA ⊢
  refine Calls.callWith_builtin (by show (false || (backTo cpos (starEach es X.env)).any (·.1)) = false; rw [hplain] <;> rfl) (Calls.evalArgs_plain ?_)
  refine thn hA fun us s2 ⟨vs, H2, I2, r2, q2⟩ => ?_
  obtain ⟨a', o', ns, k, e1, hf2, rfl, hk, q⟩ := q2
  cases e1
  obtain ⟨u, rfl, rx⟩ := vals1 r2
  obtain ⟨tk, rfl⟩ := rx
  obtain ⟨_, _, its2, rv2, tp2⟩ := I2.hok a _ hf2
  refine PySem.W.kix_tup tp2 (intsAre_of rv2) (I2.ok.hd hc) (fun _ => ⟨.int (ns.idxOf k : Nat), H2, I2.tok _, ⟨_, rfl⟩, q⟩) (fun h => absurd hk h)
/-! ### values that never change, as data of a Lean type -/
theorem Is.holds {α : Type} [DecidableEq α] [Datum α] {pins : List (Addr × Obj)} {σ : L2.St} {H : Hp} {s : Shared} (I : Inv X pins σ H s) {x : α} {v : V} {u : Value} (h : Is X.K H v (Datum.toD x)) (r : RelV v u) : Holds s.heap u x := Dp.reads I _ v u h.dp r
theorem IsA.holds {α : Type} [DecidableEq α] [Datum α] {pins : List (Addr × Obj)} {σ : L2.St} {H : Hp} {s : Shared} (I : Inv X pins σ H s) {xs : List α} {vs : List V} {us : List Value} (h : IsA X.K H vs (xs.map Datum.toD)) (r : Vals vs us) : HoldAll s.heap us xs := Dp.readsAll I _ vs us h.dp r
theorem holds_inj {α : Type} [DecidableEq α] [Datum α] {h : Heap} {v : Value} {x y : α} (a : Holds h v x) (b : Holds h v y) : x = y := by
  obtain ⟨as, ra⟩ := a
  obtain ⟨bs, rb⟩ := b
  have e := (PySem.Reads.unique ra _ _ rb).1
  have := Datum.eqv x y
  rw [e, Datum.eqv, decide_eq_true rfl] at this
  exact of_decide_eq_true this.symm
/-! ### the least -/
theorem minOf_mem {α : Type} [DecidableEq α] [DatumOrd α] : ∀ (xs : List α) (x : α), PySem.W.minOf x xs ∈ x :: xs := by
  intro xs
  induction xs with
  | nil => intro x; simp [PySem.W.minOf]
  | cons y ys ih =>
    intro x
    have h := ih (if DatumOrd.lt y x = true then y else x)
    show PySem.W.minOf (if DatumOrd.lt y x = true then y else x) ys ∈ _
    rcases List.mem_cons.mp h with h | h
    · rw [h]
      split <;> simp
    · exact List.mem_cons_of_mem _ (List.mem_cons_of_mem _ h)
theorem minOf_le {α : Type} [DecidableEq α] [DatumOrd α] (R : α → α → Prop) (hR : ∀ a b, DatumOrd.lt a b = true ↔ R a b) (irr : ∀ a, ¬ R a a) (tr : ∀ {a b c}, R a b → R b c → R a c) (tri : ∀ a b, R a b ∨ a = b ∨ R b a) :
    ∀ (xs : List α) (x y : α), y ∈ x :: xs → ¬ R y (PySem.W.minOf x xs) := by
  have step : ∀ (a b c : α), ¬ R a b → ¬ R b c → ¬ R a c := fun a b c h1 h2 h3 => by
    rcases tri b a with h | h | h
    · exact h2 (tr h h3)
    · subst h; exact h2 h3
    · exact h1 h
  intro xs
  induction xs with
  | nil =>
    intro x y hy
    simp only [List.mem_singleton] at hy
    subst hy
    exact irr y
  | cons z zs ih =>
    intro x y hy
    show ¬ R y (PySem.W.minOf (if DatumOrd.lt z x = true then z else x) zs)
    have h0 := ih (if DatumOrd.lt z x = true then z else x) _ List.mem_cons_self
    by_cases hz : DatumOrd.lt z x = true
    · rw [if_pos hz] at h0 ⊢
      rcases List.mem_cons.mp hy with e | hy
      · subst e
        exact step _ z _ (fun h => irr _ (tr h ((hR _ _).mp hz))) h0
      · exact ih z y hy
    · rw [if_neg hz] at h0 ⊢
      have hzx : ¬ R z x := fun h => hz ((hR _ _).mpr h)
      rcases List.mem_cons.mp hy with e | hy
      · subst e
        exact h0
      · rcases List.mem_cons.mp hy with e | hy
        · subst e
          exact step _ x _ hzx h0
        · exact ih x y (List.mem_cons_of_mem _ hy)
/-- min(t) of a tuple of ints -/
def rMinT (K : PySem.W.Frag) : List V → Hp → VK → Prop := fun xs H Q => ∃ a ns, xs = [.ref a] ∧ SqT K H a (List.map V.int ns) ∧ ns ≠ [] ∧ ∀ m, m ∈ ns → (∀ y ∈ ns, m ≤ y) → Q (.int m) H
theorem IsA.ints_toD {K : PySem.W.Frag} {H : Hp} (ns : List Int) : IsA K H (ns.map V.int) (ns.map Datum.toD) := IsA.ints ns
theorem cr_minT (hc : X.calm = true) (hu : X.A.units + 64 < cLine) : CallR X (.builtin "min") (rMinT X.K) := by
  intro pins s σ H xs us Q I r h
  obtain ⟨a, ns, rfl, hs, hne, q⟩ := h
  obtain ⟨its, rv, tp, hz⟩ := I.tuple hs
  rw [Vals.ref1 r]
  cases ns with
  | nil => exact absurd rfl hne
  | cons n ns =>
    have hold : HoldAll s.heap its.toArray.toList (n :: ns) := by simpa using IsA.holds I (IsA.ints_toD (n :: ns)) rv
    refine PySem.W.min_tuple_datum (I.ok.hd hc) tp hold (by show X.A.units + 1 + 0 < cLine; omega) fun i v h' tk hi hv hk => ?_
    have hi' : its[i]? = some v := by simpa using hi
    obtain ⟨t, rfl⟩ : ∃ t, v = .int (PySem.W.minOf n ns) t := by
      obtain ⟨as, rd⟩ := hv
      cases rd
      exact ⟨_, rfl⟩
    refine ⟨.int (PySem.W.minOf n ns), H, I.kept hk, ⟨t, rfl⟩, q _ (minOf_mem ns n) fun y hy => ?_⟩
    have := minOf_le (fun a b : Int => a < b) (fun a b => by show decide (a < b) = true ↔ _; exact decide_eq_true_iff) (fun a => Int.lt_irrefl a) (fun h1 h2 => Int.lt_trans h1 h2) (fun a b => by omega) ns n y hy
    omega
/-- min(l) of a list of such values -/
def rMinD (K : PySem.W.Frag) (α : Type) [DecidableEq α] [DatumOrd α] : List V → Hp → VK → Prop := fun xs H Q => ∃ l x zs, xs = [.ref l] ∧ IsL K H l ((x :: zs : List α).map Datum.toD) ∧ ∀ v, Is K H v (Datum.toD (PySem.W.minOf x zs)) → Q v H
theorem cr_minD (α : Type) [DecidableEq α] [DatumOrd α] (hd : Datum.depth α ≤ 32) (hc : X.calm = true) (hu : X.A.units + 64 < cLine) : CallR X (.builtin "min") (rMinD X.K α) := by
  intro pins s σ H xs us Q I r h
  obtain ⟨l, x, zs, rfl, ⟨ys, hl, ha⟩, q⟩ := h
  obtain ⟨its, rv, pl, hz⟩ := I.list (SqL.of hl)
  rw [Vals.ref1 r]
  have hold : HoldAll s.heap its.toArray.toList (x :: zs) := by simpa using IsA.holds I ha rv
  refine PySem.W.min_list_datum (I.ok.hd hc) pl.isList hold (by omega) fun i v h' tk hi hv hk => ?_
  have hi' : its[i]? = some v := by simpa using hi
  have hlen := rv.length
  have hlt : i < ys.length := by rw [hlen]; exact (List.getElem?_eq_some_iff.mp hi').1
  obtain ⟨u, hu1, hu2⟩ := rv.get (List.getElem?_eq_getElem hlt)
  rw [hi'] at hu1
  cases hu1
  obtain ⟨z, hz1, hz2⟩ := ha.getM' (List.getElem?_eq_getElem hlt)
  have I' : Inv X pins σ H { s with heap := h', toks := tk } := I.kept hk
  have e : z = PySem.W.minOf x zs := holds_inj (Is.holds I' hz2 hu2) hv
  refine ⟨_, H, I', hu2, q _ ?_⟩
  rw [← e]
  exact hz2
/-! ### comparisons -/
/-- a > b of such values -/
def rGtD (K : PySem.W.Frag) (α : Type) [DecidableEq α] [DatumOrd α] : R2 := fun x y H Q => ∃ a b : α, Is K H x (Datum.toD a) ∧ Is K H y (Datum.toD b) ∧ Q (.bl (DatumOrd.lt b a)) H
theorem op_gtG (K : PySem.W.Frag) (eK : X.K = K) (α : Type) [DecidableEq α] [DatumOrd α] (hd : Datum.depth α ≤ 32) (hu : X.A.units + 64 < cLine) : OpR X (compareOp .Gt) (rGtD K α) := by
  subst eK
  intro pins s σ H x y v u Q I rx ry h
  obtain ⟨a, b, h1, h2, q⟩ := h
  exact PySem.W.gt_datum (Is.holds I h1 rx) (Is.holds I h2 ry) (by omega) ⟨.bl (DatumOrd.lt b a), H, I, rfl, q⟩
/-- x in t of such values -/
def rInD (K : PySem.W.Frag) (α : Type) [DecidableEq α] [Datum α] : R2 := fun x y H Q => ∃ (a : α) (t : List α), Is K H x (Datum.toD a) ∧ Is K H y (.tuple (t.map Datum.toD)) ∧ Q (.bl (decide (a ∈ t))) H
theorem op_inG (K : PySem.W.Frag) (eK : X.K = K) (α : Type) [DecidableEq α] [Datum α] (hd : Datum.depth α ≤ 32) (hu : X.A.units + 64 < cLine) : OpR X (compareOp .In) (rInD K α) := by
  subst eK
  intro pins s σ H x y v u Q I rx ry h
  obtain ⟨a, t, h1, h2, q⟩ := h
  obtain ⟨p, xs, rfl, ht, ha⟩ := h2.tup_ex
  cases ry
  obtain ⟨its, rv, tp, hz⟩ := I.tuple ht
  have hold : HoldAll s.heap its.toArray.toList t := by simpa using IsA.holds I ha rv
  exact PySem.W.in_tuple_datum tp hold (Is.holds I h1 rx) (by omega) ⟨.bl (decide (a ∈ t)), H, I, rfl, q⟩
end
end UG
end
section
/-! Unitgrids, heights.py: the ties that stand on rings, the rings of a walk. -/
namespace UG
open PySem PySem.Spec PyProof.Rows L2 RZ UM
/-- there is a tie -/
def tb (t : Gd) (i j : Nat) : Bool := (ce t i j).isSome
/-- the ties that stand on rings -/
def inC (n : Nat) (t : Gd) (i j : Nat) : Option Ut := if wsh (tb t) n j i = true then ce t i j else none
theorem in_ok {n b : Nat} {t : Gd} (h : Sq n b t) : Sq n b (mk n (inC n t)) := sq_mk fun i j u _ _ e => by
  unfold inC at e
  split at e
  · exact h.ok _ _ _ e
  · cases e
theorem in_ed {n : Nat} {t : Gd} {i j : Nat} : Ed n (mk n (inC n t)) i j ↔ Ed n t i j ∧ wsh (tb t) n j i = true := by
  rw [ed_mk]
  unfold inC
  constructor
  · rintro ⟨hi, hj, u, e⟩
    split at e
    · rename_i h
      exact ⟨⟨hi, hj, u, e⟩, h⟩
    · cases e
  · rintro ⟨⟨hi, hj, u, e⟩, h⟩
    exact ⟨hi, hj, u, by rw [if_pos h]; exact e⟩
theorem in_ex {n k : Nat} {t : Gd} {i j : Nat} (h : Ed n (mk n (inC n t)) i j) : ex (mk n (inC n t)) k i j = ex t k i j := by
  obtain ⟨hi, hj, u, e⟩ := h
  unfold ex
  rw [e]
  rw [ce_mk hi hj] at e
  unfold inC at e
  split at e
  · rw [e]
  · cases e
section
variable {P : Program} {w : World} {K : PySem.W.Frag} {mg : Str → Option Value} {base : Heap}
def sp_ring_ties (K : PySem.W.Frag) : Sp := fun vs H Q _ => ∃ x, vs = [x] ∧ ∃ (l : Addr) (n b : Nat) (t : Gd), x = .ref l ∧ IsLL K H l (tcs t) ∧ Sq n b t ∧ n ≤ 10 ∧ ∀ H' l', Same H H' → IsLL K H' l' (tcs (mk n (inC n t))) → Q (.ref l') H'
theorem cel_non {H : Hp} {v : V} {c : Option Ut} (h : Is K H v (cel c)) : (!decide (v = .non)) = c.isSome := by
  cases c with
  | none => rw [h.non_eq]; rfl
  | some u =>
    have h : Is K H v (un u) := h
    rw [decide_eq_false h.notNon]
    rfl
abbrev n_ring_ties : List Str := ["ties", "reach", "found", "place", "row", "tie", "goal"]
theorem sc_ring_ties : FnScope n_ring_ties ["ties"] (defScope s_ring_ties) := ⟨rfl, rfl, rfl, by decide +kernel, rfl, by decide +kernel, by decide +kernel⟩
theorem ok_ring_ties (T : Txt K mg) : Ok P w K mg base "ring_ties" ["ties"] 2 (sp_ring_ties K) := by
  refine T.x_ring_ties.ok sc_ring_ties (fun _ _ _ _ _ _ us hl => match us, hl with | [_], _ => rfl) (fun vs H Q E h => by obtain ⟨_, rfl, _⟩ := h; rfl) (fun f cdv A outer s H vs Q E hr h => ?_)
  obtain ⟨_, rfl, l, n, b, t, rfl, hl, sq, hn, q⟩ := h
  obtain ⟨zs, hz, hzl⟩ := hl.sq
  rw [tcs_len sq] at hzl
  have cellAt : ∀ {i j : Nat} {a : Addr} {ds : List PyData}, i < n → (tcs t)[i]? = some ds → j < n → ds[j]? = some (cel (ce t i j)) := fun {i j a ds} hi hds hj => by
    obtain ⟨r, hr1, hr2, hr3⟩ := tcs_row sq hi
    rw [hr1] at hds
    cases hds
    rw [List.getElem?_map, hr3 j hj]
    rfl
  have rowLen : ∀ {i : Nat} {ds : List PyData}, i < n → (tcs t)[i]? = some ds → ds.length = n := fun {i ds} hi hds => by
    obtain ⟨r, hr1, hr2, hr3⟩ := tcs_row sq hi
    rw [hr1] at hds
    cases hds
    rw [List.length_map, hr2]
  refine ⟨_, (pss_cons (ps_set (i := 1) sc_ring_ties.nd rfl (.inr rfl) (pc (ok_reached_by T) hr rfl (pa_cons (pe_lc (own := [("row", 4)]) rfl sc_ring_ties.nd (pi_list (pv 0)) (blkOk_by (N := n_ring_ties) (sc := (defScope s_ring_ties)) (by decide +kernel)) (fun _ _ _ _ _ => (pg_name (i := 4) sc_ring_ties.nd rfl (.inl rfl))) (fun _ _ _ _ _ => pts_nil) (fun _ _ _ _ _ => (pe_lc (own := [("tie", 5)]) rfl sc_ring_ties.nd (pi_listK K (by rfl) (pv 4)) (blkOk_by (N := n_ring_ties) (sc := { kind := ScopeKind.function, names := [(Str.ofString ".0", NameKind.local), (Str.ofString "row", NameKind.local)], isGenerator := false, isCoroutine := false }) (by decide +kernel)) (fun _ _ _ _ _ => (pg_name (i := 5) sc_ring_ties.nd rfl (.inl rfl))) (fun _ _ _ _ _ => pts_nil) (fun _ _ _ _ _ => (pe_cmp (pc_notN (pv 5))))))) pa_nil)))
    (pss_cons (ps_set (i := 2) sc_ring_ties.nd rfl (.inl rfl) (pe_lst pa_nil))
    (pss_cons (ps_for PassesOwn.never rfl (pi_enum rfl T.b_enumerate (pa_cons (pv 0) pa_nil)) (by refine pg2 (i := 3) (j := 4) K rfl sc_ring_ties.nd ?_ ?_ ?_ ?_ ?_ ?_ ?_ <;> first | rfl | exact .inl rfl | exact .inr rfl)
      (pss_one (ps_expr (pe_bm PySem.F.plainAttrs_list PySem.F.slot_list_append PySem.F.type_list_append mt_append (pv 2) (pa_cons (pe_lc (own := [("goal", 6), ("tie", 5)]) rfl sc_ring_ties.nd (pi_enum rfl T.b_enumerate (pa_cons (pv 4) pa_nil)) (blkOk_by (N := n_ring_ties) (sc := (defScope s_ring_ties)) (by decide +kernel)) (fun _ _ _ _ _ => (by refine pg2 (i := 6) (j := 5) K rfl sc_ring_ties.nd ?_ ?_ ?_ ?_ ?_ ?_ ?_ <;> first | rfl | exact .inl rfl | exact .inr rfl)) (fun _ _ _ _ _ => pts_nil) (fun _ _ _ _ _ => (pe_ifExp (pt_val (pe_ix (ix_listK K (by rfl)) (pe_ix (ix_listK K (by rfl)) (pv 1) (pv 6) (fun _ _ => rfl)) (pv 3) (fun _ _ => rfl))) (pv 5) pe_non))) pa_nil)))))
    (pss_one (ps_ret (pv 2)))))), ?_⟩
  dsimp only [tVar, tC, tAdd, tSub, tMul, t2I, tCmp, tIsN, tNotN, tB, tAnd, tOr, tNot, tAndV, tOrV, tNotV, tIf, tSeq, tNext, tDrop, tRet, tRetN, tIfS, tAsg, tAug, tPar, gName, gNil, gCons, gSub, tOp, tUn, tTest, tChain, tCons, tNil, tTup, tLst, tCall, tCB, tMake, tFld, sFld, tNoPart, tPart, tSl, tBM, tBM0, rI0, rI, tYes, Cx.nox, Cx.blk, cxOf, List.nil_append, List.cons_append]
  -- [[tie is not None for tie in row] for row in ties]
  refine lcF (H := H) (B := H) (feedL (SqL.of hz)) (fun R' r => ⟨_, rfl, l, rfl, ⟨_, SqL.of hz⟩, r⟩)
    (fun L i acc H' => Same H H' ∧ IsLL K H' L ((bm n (tb t)).take i))
    (fun L hL => ⟨same_upd hL, IsLL.nil hL⟩) (fun _ _ _ _ h => h.1) (fun L i x acc H2 H' hL hi hP ha hle s it => ?_) (fun L acc H2 hL hP ha _ => ?_)
  · obtain ⟨s1, hL2⟩ := hP
    obtain ⟨a, ds, rfl, hds, hla⟩ := hl.row_of hz it
    have hi : i < n := by omega
    have hla2 := (hla.same s1).same s
    obtain ⟨ys, hys, hya⟩ := hla2
    have hyl : ys.length = n := by rw [hya.length, rowLen hi hds]
    dsimp only [tVar, tC, tAdd, tSub, tMul, t2I, tCmp, tIsN, tNotN, tB, tAnd, tOr, tNot, tAndV, tOrV, tNotV, tIf, tSeq, tNext, tDrop, tRet, tRetN, tIfS, tAsg, tAug, tPar, gName, gNil, gCons, gSub, tOp, tUn, tTest, tChain, tCons, tNil, tTup, tLst, tCall, tCB, tMake, tFld, sFld, tNoPart, tPart, tSl, tBM, tBM0, rI0, rI, tYes, Cx.nox, Cx.blk, cxOf, List.nil_append, List.cons_append]
    refine ⟨rfl, ifT rfl ?_⟩
    refine lcM (K := K) (H := H') (f := fun j => .bool (tb t i j)) (feedL (SqL.of hys)) (fun R r => ⟨_, rfl, a, rfl, ⟨_, SqL.of hys⟩, r⟩) (fun L2 j x acc2 H3 H4 hL2 hj hp hl2 hle2 s2 it2 => ?_) (fun L2 H3 hL3 s2 hi2 => ?_)
    · have hj : j < n := by omega
      obtain ⟨d, hd, hv⟩ := hya.get' it2
      rw [cellAt (a := a) hi hds hj] at hd
      cases hd
      dsimp only [tVar, tC, tAdd, tSub, tMul, t2I, tCmp, tIsN, tNotN, tB, tAnd, tOr, tNot, tAndV, tOrV, tNotV, tIf, tSeq, tNext, tDrop, tRet, tRetN, tIfS, tAsg, tAug, tPar, gName, gNil, gCons, gSub, tOp, tUn, tTest, tChain, tCons, tNil, tTup, tLst, tCall, tCB, tMake, tFld, sFld, tNoPart, tPart, tSl, tBM, tBM0, rI0, rI, tYes, Cx.nox, Cx.blk, cxOf, List.nil_append, List.cons_append]
      refine ⟨rfl, ifT rfl ⟨_, rfl, ?_⟩⟩
      rw [cel_non (hv.same (hp.1.trans s2))]
      exact hp.got hL2 hl2 s2 hle2 (lt_line (by omega)) (.bl _)
    · rw [hyl] at hi2
      have h1 := hL2.same s
      have e := s2 _ _ (s _ _ ha)
      have hp := IsLL.push h1 s2 hL3 hi2 e
      refine LcGot.mk e hle (lt_line (by omega)) ⟨((s1.trans s).trans s2).out hL, ?_⟩
      unfold bm
      rw [take_range _ hi]
      exact hp.2
  · obtain ⟨s1, hL2⟩ := hP
    rw [List.take_of_length_le (by rw [bm_len]; omega)] at hL2
    refine ⟨_, rfl, L, n, tb t, rfl, hL2, hn, fun H3 rl s2 hrl => ?_⟩
    refine ⟨Nat.zero_le _, fun fo nf => ?_⟩
    have s3 := s1.trans s2
    refine forF (B := H3) (feedE (SqL.of (s3 _ _ hz))) (fun R r => ⟨_, rfl, l, zs, rfl, SqL.of ((s3.new nf) _ _ hz), r⟩)
      (fun i σ H' => (∃ y3 y4 y5 y6, σ = [some (.ref l), some (.ref rl), some (.ref fo), y3, y4, y5, y6]) ∧ Same H3 H' ∧ IsLL K H' fo (((List.range n).map fun i => (List.range n).map fun j => cel (inC n t i j)).take i))
      ⟨⟨_, _, _, _, rfl⟩, same_upd nf, IsLL.nil nf⟩ (fun _ _ _ h => h.2.1) (fun i x σ H4 H5 hi hP s4 it => ?_) (fun σ H4 hP => ?_)
    · obtain ⟨⟨y3, y4, y5, y6, rfl⟩, s5, hf⟩ := hP
      obtain ⟨T', v, rfl, e1, e2⟩ := it
      obtain ⟨a, ds, rfl, hds, hla⟩ := hl.row_of hz e1
      have hi : i < n := by omega
      have s6 := s3.trans (s5.trans s4)
      obtain ⟨ys, hys, hya⟩ := hla.same s6
      have hyl : ys.length = n := by rw [hya.length, rowLen hi hds]
      have hf := hf.same s4
      refine gPair e2 ?_
      dsimp only [tVar, tC, tAdd, tSub, tMul, t2I, tCmp, tIsN, tNotN, tB, tAnd, tOr, tNot, tAndV, tOrV, tNotV, tIf, tSeq, tNext, tDrop, tRet, tRetN, tIfS, tAsg, tAug, tPar, gName, gNil, gCons, gSub, tOp, tUn, tTest, tChain, tCons, tNil, tTup, tLst, tCall, tCB, tMake, tFld, sFld, tNoPart, tPart, tSl, tBM, tBM0, rI0, rI, tYes, Cx.nox, Cx.blk, cxOf, List.nil_append, List.cons_append]
      refine ⟨_, rfl, hf.ty, ?_⟩
      refine lcM (K := K) (H := H5) (f := fun j => cel (inC n t i j)) (feedE (SqL.of hys)) (fun R r => ⟨_, rfl, a, ys, rfl, SqL.of hys, r⟩) (fun L2 j x acc2 H6 H7 hL3 hj hp hl2 hle2 s7 it2 => ?_) (fun L2 H6 hL3 s7 hi2 => ?_)
      · have hj : j < n := by omega
        obtain ⟨T2, v2, rfl, e3, e4⟩ := it2
        obtain ⟨d, hd, hv⟩ := hya.get' e3
        rw [cellAt (a := a) hi hds hj] at hd
        cases hd
        refine gPair e4 ?_
        dsimp only [tVar, tC, tAdd, tSub, tMul, t2I, tCmp, tIsN, tNotN, tB, tAnd, tOr, tNot, tAndV, tOrV, tNotV, tIf, tSeq, tNext, tDrop, tRet, tRetN, tIfS, tAsg, tAug, tPar, gName, gNil, gCons, gSub, tOp, tUn, tTest, tChain, tCons, tNil, tTup, tLst, tCall, tCB, tMake, tFld, sFld, tNoPart, tPart, tSl, tBM, tBM0, rI0, rI, tYes, Cx.nox, Cx.blk, cxOf, List.nil_append, List.cons_append]
        refine ⟨rfl, ifT rfl ⟨_, rfl, _, rfl, r_ixLL rfl (hrl.same ((s5.trans s4).trans (hp.1.trans s7))) rfl (bm_row _ hj) fun c hc => ⟨_, rfl, r_ixLn rfl hc rfl (range_get _ hi) fun v3 hv3 => ⟨_, hv3.bl_eq, ?_⟩⟩⟩⟩
        have hv' := hv.same (hp.1.trans s7)
        by_cases hw : wsh (tb t) n j i = true
        · refine ifT hw ⟨_, rfl, hp.got hL3 hl2 s7 hle2 (lt_line (by omega)) ?_⟩
          unfold inC
          rw [if_pos hw]
          exact hv'
        · refine ifF (by simpa using hw) (hp.got hL3 hl2 s7 hle2 (lt_line (by omega)) ?_)
          unfold inC
          rw [if_neg hw]
          exact .non
      · rw [hyl] at hi2
        refine r_appLL hf s7 hL3 hi2 (by simp; omega) fun H7 k h7 => ⟨⟨_, _, _, _, rfl⟩, k H3 ((s5.trans s4).trans s7) nf, ?_⟩
        rw [take_range _ hi]
        exact h7
    · obtain ⟨⟨y3, y4, y5, y6, rfl⟩, s5, hf⟩ := hP
      refine ⟨_, rfl, q _ _ (s3.trans s5) ?_⟩
      rw [hzl, take_all] at hf
      rw [tcs_mk]
      exact hf
/-! ### rings as the program makes them: tuples without a dict -/
def IsR (H : Hp) (v : V) (r : List Nat) : Prop := ∃ a o, v = .ref a ∧ H a = some (.frz o (.tup (r.map vn))) ∧ o.dict = none
def IsRA (H : Hp) : List V → List (List Nat) → Prop
  | [], [] => True
  | v :: vs, r :: rs => IsR H v r ∧ IsRA H vs rs
  | _, _ => False
def IsLN (H : Hp) (l : Addr) (rs : List (List Nat)) : Prop := ∃ xs, H l = some (.lst xs) ∧ IsRA H xs rs
section
variable {K : PySem.W.Frag} {H H' : Hp}
theorem IsR.same {v : V} {r : List Nat} (s : Same H H') (h : IsR H v r) : IsR H' v r := let ⟨a, o, e, h1, h2⟩ := h; ⟨a, o, e, s _ _ h1, h2⟩
theorem IsR.at {v : V} {r : List Nat} {l : Addr} {xs : List V} {o : HO} (e : H l = some (.lst xs)) (h : IsR H v r) : IsR (upd H l o) v r := by
  obtain ⟨a, ob, rfl, h1, h2⟩ := h
  have ne : a ≠ l := fun z => by rw [z, e] at h1; cases h1
  exact ⟨a, ob, rfl, by rw [upd_ne ne]; exact h1, h2⟩
theorem IsR.is {v : V} {r : List Nat} (h : IsR H v r) : Is K H v (tn r) := by
  obtain ⟨a, o, rfl, h1, h2⟩ := h
  exact .tup (.inl (.inr ⟨o, h1⟩)) (IsA.nats r)
theorem IsR.nod {v : V} {r : List Nat} (h : IsR H v r) : NoD H v := let ⟨a, o, e, h1, h2⟩ := h; ⟨a, o, _, e, h1, h2⟩
theorem IsRA.mono {H' : Hp} (f : ∀ v r, IsR H v r → IsR H' v r) : ∀ {xs : List V} {rs : List (List Nat)}, IsRA H xs rs → IsRA H' xs rs
  | [], [], _ => trivial
  | _ :: _, _ :: _, h => ⟨f _ _ h.1, IsRA.mono f h.2⟩
theorem IsRA.is : ∀ {xs : List V} {rs : List (List Nat)}, IsRA H xs rs → IsA K H xs (rs.map tn)
  | [], [], _ => .nil
  | _ :: _, _ :: _, h => .cons h.1.is h.2.is
theorem IsRA.append : ∀ {xs ys : List V} {rs ts : List (List Nat)}, IsRA H xs rs → IsRA H ys ts → IsRA H (xs ++ ys) (rs ++ ts)
  | [], _, [], _, _, h => h
  | _ :: _, _, _ :: _, _, h, g => ⟨h.1, h.2.append g⟩
theorem IsRA.length : ∀ {xs : List V} {rs : List (List Nat)}, IsRA H xs rs → xs.length = rs.length
  | [], [], _ => rfl
  | _ :: _, _ :: _, h => by rw [List.length_cons, List.length_cons, h.2.length]
theorem IsRA.get : ∀ {xs : List V} {rs : List (List Nat)} {i : Nat} {v : V}, IsRA H xs rs → xs[i]? = some v → ∃ r, rs[i]? = some r ∧ IsR H v r
  | [], [], _, _, _, e => by simp at e
  | _ :: _, r :: _, 0, _, h, e => by simp at e; subst e; exact ⟨r, rfl, h.1⟩
  | _ :: _, _ :: _, i + 1, _, h, e => by
    obtain ⟨r, h1, h2⟩ := IsRA.get (i := i) h.2 (by simpa using e)
    exact ⟨r, by simpa using h1, h2⟩
theorem IsLN.l {l : Addr} {rs : List (List Nat)} (h : IsLN H l rs) : IsL K H l (rs.map tn) := let ⟨xs, e, a⟩ := h; ⟨xs, e, a.is⟩
theorem IsLN.same {l : Addr} {rs : List (List Nat)} (s : Same H H') (h : IsLN H l rs) : IsLN H' l rs := let ⟨xs, e, a⟩ := h; ⟨xs, s _ _ e, a.mono fun _ _ h => h.same s⟩
theorem IsLN.ne {l p : Addr} {o : HO} {rs : List (List Nat)} {ys : List V} (e : H p = some (.lst ys)) (ne : l ≠ p) (h : IsLN H l rs) : IsLN (upd H p o) l rs :=
  let ⟨xs, e1, a⟩ := h; ⟨xs, by rw [upd_ne ne]; exact e1, a.mono fun _ _ h => h.at e⟩
theorem r_appN {Q : VK} {l : Addr} {rs : List (List Nat)} {v : V} {r : List Nat} (h : IsLN H l rs) (hv : IsR H v r) (hz : rs.length < 1000) (q : ∀ H', (∀ B, Same B H → B l = none → Same B H') → IsLN H' l (rs ++ [r]) → Q .non H') : rAppend (.ref l) [v] H Q := by
  obtain ⟨xs, e, ha⟩ := h
  exact ⟨l, xs, _, rfl, rfl, e, by rw [ha.length]; exact lt_line (by omega), q _ (fun B s n => s.out n) ⟨_, upd_same, (ha.append (ys := [v]) (ts := [r]) ⟨hv, trivial⟩).mono fun _ _ h => h.at e⟩⟩
end
/-- the rings of a walk -/
def sp_rings_in (K : PySem.W.Frag) : Sp := fun vs H Q _ => ∃ x, vs = [x] ∧ ∃ (wk : List Nat), Is K H x (tn wk) ∧ wk.length ≤ 100 ∧ ∀ H' l, Same H H' → IsLN H' l (ringsIn wk) → Q (.ref l) H'
/-- one object alone -/
def only (a : Addr) (o : HO) : Hp := fun b => if b = a then some o else none
theorem only_same {H : Hp} {a : Addr} {o : HO} (h : H a = some o) : Same (only a o) H := fun b u e => by
  unfold only at e
  split at e
  · rename_i z
    cases e
    rw [z]
    exact h
  · cases e
theorem only_at (a : Addr) (o : HO) : only a o a = some o := if_pos rfl
theorem only_ne {a b : Addr} (o : HO) (h : b ≠ a) : only a o b = none := if_neg h
theorem inV_nats (x : Nat) (l : List Nat) : inV (.int (x : Nat)) (l.map vn) = decide (x ∈ l) := by
  unfold inV
  rw [List.any_map, Bool.eq_iff_iff, List.any_eq_true, decide_eq_true_eq]
  constructor
  · rintro ⟨y, hy, e⟩
    have : ((y : Nat) : Int) = (x : Nat) := by simpa [vn, eqV] using e
    have : y = x := by omega
    exact this ▸ hy
  · intro h
    exact ⟨x, h, by simp [vn, eqV]⟩
theorem flat_nats (l : List Nat) : (l.map vn).all flatV = true := by
  rw [List.all_map, List.all_eq_true]
  intro x _
  rfl
theorem rstep_len (st : List (List Nat) × List Nat) (x : Nat) : (rstep st x).1.length ≤ st.1.length + 1 ∧ (rstep st x).2.length ≤ st.2.length + 1 := by
  unfold rstep
  split
  · simp
    omega
  · simp
theorem fold_len : ∀ (l : List Nat), (l.foldl rstep ([], [])).1.length ≤ l.length ∧ (l.foldl rstep ([], [])).2.length ≤ l.length := by
  intro l
  have : ∀ (l : List Nat) (st : List (List Nat) × List Nat), (l.foldl rstep st).1.length ≤ st.1.length + l.length ∧ (l.foldl rstep st).2.length ≤ st.2.length + l.length := by
    intro l
    induction l with
    | nil => intro st; simp
    | cons x l ih =>
      intro st
      have h1 := ih (rstep st x)
      have h2 := rstep_len st x
      simp only [List.foldl_cons, List.length_cons]
      omega
  simpa using this l ([], [])
theorem cutV_take (xs : List V) {j : Nat} (h : j ≤ xs.length) : cutV xs none (some (j : Int)) = xs.take j := by
  unfold cutV
  rw [HT.sIx_none, HT.sIx_nat, List.drop_zero, Nat.min_eq_left h, Nat.sub_zero]
theorem cutV_drop (xs : List V) {j : Nat} (h : j ≤ xs.length) : cutV xs (some (j : Int)) none = xs.drop j := by
  unfold cutV
  rw [HT.sIx_none, HT.sIx_nat, Nat.min_eq_left h]
  exact List.take_of_length_le (by rw [List.length_drop]; exact Nat.le_refl _)
/-- where a number stands -/
theorem r_index {H : Hp} {Q : VK} {p : Addr} {l : List Nat} {x : Nat} (h : H p = some (.lst (l.map vn))) (hx : x ∈ l) (q : Q (.int (l.idxOf x : Nat)) H) : rIndex K (.ref p) [.int (x : Nat)] H Q := by
  have hlt := List.idxOf_lt_length_of_mem hx
  refine ⟨p, _, _, l.idxOf x, _, rfl, rfl, SqL.of h, rfl, flat_nats l, by rw [List.getElem?_map, List.getElem?_eq_getElem hlt]; rfl, by simp [vn, eqV, List.getElem_idxOf], fun m z hm hz => ?_, q⟩
  rw [List.getElem?_map, List.getElem?_eq_getElem (by omega)] at hz
  cases hz
  have := List.not_of_lt_findIdx (p := (· == x)) (xs := l) (i := m) hm
  simp only [vn, eqV, beq_eq_false_iff_ne, ne_eq]
  intro z
  have e : l[m] = x := by omega
  simp [e] at this
abbrev n_rings_in : List Str := ["walk", "found", "stack", "place", "at"]
theorem sc_rings_in : FnScope n_rings_in ["walk"] (defScope s_rings_in) := ⟨rfl, rfl, rfl, by decide +kernel, rfl, by decide +kernel, by decide +kernel⟩
theorem ok_rings_in (T : Txt K mg) : Ok P w K mg base "rings_in" ["walk"] 1 (sp_rings_in K) := by
  refine T.x_rings_in.ok sc_rings_in (fun _ _ _ _ _ _ us hl => match us, hl with | [_], _ => rfl) (fun vs H Q E h => by obtain ⟨_, rfl, _⟩ := h; rfl) (fun f cdv A outer s H vs Q E hr h => ?_)
  obtain ⟨x, rfl, wk, hx, hwl, q⟩ := h
  obtain ⟨a, xs, rfl, ht, ha⟩ := hx.tup_ex
  have hxl : xs.length = wk.length := by rw [ha.length, List.length_map]
  refine ⟨_, (pss_cons (ps_set (i := 1) sc_rings_in.nd rfl (.inl rfl) (pe_lst pa_nil))
    (pss_cons (ps_set (i := 2) sc_rings_in.nd rfl (.inl rfl) (pe_lst pa_nil))
    (pss_cons (ps_for PassesOwn.never rfl (pi_tup (pv 0)) (pg_name (i := 3) sc_rings_in.nd rfl (.inl rfl))
      (pss_cons (ps_if (pt_cmpR op_in_seq (pv 3) (pv 2) (by with_unfolding_all rfl))
        (pss_cons (ps_set (i := 4) sc_rings_in.nd rfl (.inl rfl) (pe_bm PySem.F.plainAttrs_list PySem.F.slot_list_index PySem.F.type_list_index mt_index (pv 2) (pa_cons (pv 3) pa_nil)))
        (pss_cons (ps_expr (pe_bm PySem.F.plainAttrs_list PySem.F.slot_list_append PySem.F.type_list_append mt_append (pv 1) (pa_cons (pe_callTy call_tupleN (by rfl) T.b_tuple bt_tuple (pa_cons (pe_slice sl_list (pv 2) (po_some (pv 4)) po_none) pa_nil)) pa_nil)))
        (pss_one (ps_set (i := 2) sc_rings_in.nd rfl (.inl rfl) (pe_slice sl_list (pv 2) po_none (po_some (pv 4)))))))
        pss_nil)
      (pss_one (ps_expr (pe_bm PySem.F.plainAttrs_list PySem.F.slot_list_append PySem.F.type_list_append mt_append (pv 2) (pa_cons (pv 3) pa_nil))))))
    (pss_one (ps_ret (pv 1)))))), ?_⟩
  dsimp only [tVar, tC, tAdd, tSub, tMul, t2I, tCmp, tIsN, tNotN, tB, tAnd, tOr, tNot, tAndV, tOrV, tNotV, tIf, tSeq, tNext, tDrop, tRet, tRetN, tIfS, tAsg, tAug, tPar, gName, gNil, gCons, gSub, tOp, tUn, tTest, tChain, tCons, tNil, tTup, tLst, tCall, tCB, tMake, tFld, sFld, tNoPart, tPart, tSl, tBM, tBM0, rI0, rI, tYes, Cx.nox, Cx.blk, cxOf, List.nil_append, List.cons_append]
  refine ⟨Nat.zero_le _, fun fo nf => ⟨Nat.zero_le _, fun st0 ns => ?_⟩⟩
  have ne0 : st0 ≠ fo := fun z => by rw [z, upd_same] at ns; cases ns
  refine forF (B := H) (feedT ht) (fun R r => ⟨_, rfl, a, rfl, ⟨_, SqT.same ((same_upd nf).new ns) ht⟩, r⟩)
    (fun i σ H' => (∃ st y3 y4, σ = [some (.ref a), some (.ref fo), some (.ref st), y3, y4] ∧ st ≠ fo ∧ H st = none ∧ H' st = some (.lst (((wk.take i).foldl rstep ([], [])).2.map vn))) ∧ Same H H' ∧ IsLN H' fo ((wk.take i).foldl rstep ([], [])).1)
    ⟨⟨st0, _, _, rfl, ne0, (same_upd nf).free ns, upd_same⟩, (same_upd nf).new ns, IsLN.same (same_upd ns) ⟨[], upd_same, trivial⟩⟩ (fun _ _ _ h => h.2.1) (fun i x σ H1 H2 hi hP s it => ?_) (fun σ H1 hP => ?_)
  · obtain ⟨⟨st, y3, y4, rfl, ne, n0, hst⟩, s1, hf⟩ := hP
    obtain ⟨z, hz, rfl⟩ := nat_get ha it
    have e : ((wk.take (i + 1)).foldl rstep ([], [])) = rstep ((wk.take i).foldl rstep ([], [])) z := by rw [take_succ hz, List.foldl_append]; rfl
    have hlen := fold_len (wk.take i)
    have hle : (wk.take i).length ≤ 100 := by simp; omega
    rw [e]
    generalize hG : (wk.take i).foldl rstep ([], []) = S at *
    have hst := s _ _ hst
    have hf := hf.same s
    have s1 := s1.trans s
    dsimp only [tVar, tC, tAdd, tSub, tMul, t2I, tCmp, tIsN, tNotN, tB, tAnd, tOr, tNot, tAndV, tOrV, tNotV, tIf, tSeq, tNext, tDrop, tRet, tRetN, tIfS, tAsg, tAug, tPar, gName, gNil, gCons, gSub, tOp, tUn, tTest, tChain, tCons, tNil, tTup, tLst, tCall, tCB, tMake, tFld, sFld, tNoPart, tPart, tSl, tBM, tBM0, rI0, rI, tYes, Cx.nox, Cx.blk, cxOf, List.nil_append, List.cons_append]
    refine ⟨_, rfl, _, rfl, st, _, rfl, .inl (SqL.of hst), rfl, flat_nats _, _, rfl, ?_⟩
    rw [inV_nats]
    -- the stack gets the place
    have fin : ∀ (H5 : Hp) (st' : Addr) (l : List Nat) (y4 : Option V) (F : List (List Nat)), st' ≠ fo → H st' = none → H5 st' = some (.lst (l.map vn)) → Same H H5 → IsLN H5 fo F → l.length ≤ 200 → rstep S z = (F, l ++ [z]) →
        ∃ v, [some (.ref a), some (.ref fo), some (.ref st'), some (.int (z : Nat)), y4][2]? = some (some v) ∧ tyV K "list" v H5 ∧ ∃ v_1, [some (.ref a), some (.ref fo), some (.ref st'), some (.int (z : Nat)), y4][3]? = some (some v_1) ∧ rAppend v [v_1] H5 fun _ H1 =>
          (∃ st y3' y4', [some (.ref a), some (.ref fo), some (.ref st'), some (.int (z : Nat)), y4] = [some (.ref a), some (.ref fo), some (.ref st), y3', y4'] ∧ st ≠ fo ∧ H st = none ∧ H1 st = some (.lst ((rstep S z).2.map vn))) ∧ Same H H1 ∧ IsLN H1 fo (rstep S z).1 := by
      intro H5 st' l y4 F ne' n0' h5 s5 hF hl hr
      refine ⟨_, rfl, .inl ⟨rfl, _, SqL.of h5⟩, _, rfl, st', _, _, rfl, rfl, h5, by rw [List.length_map]; exact lt_line (by omega), ⟨st', _, _, rfl, ne', n0', ?_⟩, s5.out n0', ?_⟩
      · rw [upd_same, hr, List.map_append]
        rfl
      · rw [hr]
        exact hF.ne h5 (Ne.symm ne')
    by_cases hm : z ∈ S.2
    · refine ifT (decide_eq_true hm) ?_
      have hat := List.idxOf_lt_length_of_mem hm
      refine ⟨_, rfl, .inl ⟨rfl, _, SqL.of hst⟩, _, rfl, r_index hst hm ?_⟩
      refine ⟨_, rfl, (hf.l (K := K)).ty, _, rfl, _, rfl, _, rfl, st, _, rfl, SqL.of hst, fun c nc => ?_⟩
      have s2 := same_upd (o := .lst (cutV (S.2.map vn) (some (S.2.idxOf z : Nat)) none)) nc
      refine ⟨c, _, rfl, SqL.of upd_same, fun tp ob ntp nob => ?_⟩
      have s3 := s2.new (o := .frz ob (.tup (cutV (S.2.map vn) (some (S.2.idxOf z : Nat)) none))) ntp
      rw [cutV_drop _ (by rw [List.length_map]; omega)] at s3 ntp ⊢
      refine r_appN (hf.same s3) (r := S.2.drop (S.2.idxOf z)) ⟨tp, ob, rfl, by rw [upd_same, List.map_drop], nob⟩ (by omega) fun H5 k5 h5 => ?_
      · skip
        have hst5 : H5 st = some (.lst (S.2.map vn)) := k5 _ ((only_same hst).trans s3) (only_ne _ (Ne.symm ne)) _ _ (only_at _ _)
        have s5 : Same H H5 := k5 H (s1.trans s3) nf
        refine ⟨_, rfl, _, rfl, _, rfl, st, _, rfl, SqL.of hst5, fun c2 nc2 => ?_⟩
        rw [cutV_take _ (by rw [List.length_map]; omega), ← List.map_take]
        have nef : c2 ≠ fo := fun zz => by
          obtain ⟨_, e', _⟩ := h5
          rw [zz, e'] at nc2
          cases nc2
        refine fin _ c2 (S.2.take (S.2.idxOf z)) _ _ nef (s5.free nc2) upd_same (s5.new nc2) (h5.same (same_upd nc2)) (by rw [List.length_take]; omega) ?_
        unfold rstep
        rw [if_pos hm]
    · refine ifF (decide_eq_false hm) (fin H2 st S.2 _ S.1 ne n0 hst s1 hf (by omega) ?_)
      unfold rstep
      rw [if_neg hm]
  · obtain ⟨⟨st, y3, y4, rfl, ne, n0, hst⟩, s1, hf⟩ := hP
    refine ⟨_, rfl, q _ _ s1 ?_⟩
    rw [hxl, List.take_length] at hf
    exact hf
end
end UG
end
section
/-! Unitgrids, heights.py: a ring's least place first, shortest walks. -/
namespace UG
open PySem PySem.Spec PyProof.Rows L2 RZ UM
theorem vn_ints (r : List Nat) : r.map vn = (r.map fun i => ((i : Nat) : Int)).map V.int := by rw [List.map_map]; rfl
/-! ### a dict from places to walks -/
section
variable {K : PySem.W.Frag} {H H' : Hp}
def DA (K : PySem.W.Frag) (H : Hp) : List (Key × V) → List (Nat × List Nat) → Prop
  | [], [] => True
  | p :: kvs, q :: W => p.1 = .inl ((q.1 : Nat) : Int) ∧ Is K H p.2 (tn q.2) ∧ DA K H kvs W
  | _, _ => False
theorem DA.tk (t : Tk H H') : ∀ {kvs : List (Key × V)} {W : List (Nat × List Nat)}, DA K H kvs W → DA K H' kvs W
  | [], [], _ => trivial
  | _ :: _, _ :: _, h => ⟨h.1, h.2.1.tk t, DA.tk t h.2.2⟩
theorem DA.length : ∀ {kvs : List (Key × V)} {W : List (Nat × List Nat)}, DA K H kvs W → kvs.length = W.length
  | [], [], _ => rfl
  | _ :: _, _ :: _, h => by rw [List.length_cons, List.length_cons, DA.length h.2.2]
theorem DA.snoc {k : Nat} {w : List Nat} {v : V} (hv : Is K H v (tn w)) : ∀ {kvs : List (Key × V)} {W : List (Nat × List Nat)}, DA K H kvs W → DA K H (kvs ++ [(.inl ((k : Nat) : Int), v)]) (W ++ [(k, w)])
  | [], [], _ => ⟨rfl, hv, trivial⟩
  | _ :: _, _ :: _, h => ⟨h.1, h.2.1, DA.snoc hv h.2.2⟩
theorem DA.get {k : Nat} : ∀ {kvs : List (Key × V)} {W : List (Nat × List Nat)}, DA K H kvs W → (k ∉ W.map (·.1) ∧ valV kvs (.inl ((k : Nat) : Int)) = none) ∨ ∃ v w, (k, w) ∈ W ∧ W.lookup k = some w ∧ valV kvs (.inl ((k : Nat) : Int)) = some v ∧ Is K H v (tn w)
  | [], [], _ => .inl ⟨by simp, rfl⟩
  | p :: kvs, q :: W, h => by
    by_cases e : k = q.1
    · refine .inr ⟨p.2, q.2, by rw [e]; exact List.mem_cons_self, ?_, ?_, h.2.1⟩
      · obtain ⟨q1, q2⟩ := q
        subst e
        simp
      · rw [valV_pos]
        rw [h.1, e]
    · have ne : ¬ p.1 = .inl ((k : Nat) : Int) := fun z => e (by rw [h.1] at z; injection z with z; omega)
      rw [valV_neg ne]
      rcases DA.get (k := k) h.2.2 with ⟨h1, h2⟩ | ⟨v, w, h1, h2, h3, h4⟩
      · exact .inl ⟨by simp only [List.map_cons, List.mem_cons, not_or]; exact ⟨e, h1⟩, h2⟩
      · refine .inr ⟨v, w, List.mem_cons_of_mem _ h1, ?_, h3, h4⟩
        obtain ⟨q1, q2⟩ := q
        rw [List.lookup_cons]
        have : (k == q1) = false := by simpa using e
        rw [this]
        exact h2
def IsD (K : PySem.W.Frag) (H : Hp) (d : Addr) (W : List (Nat × List Nat)) : Prop := ∃ kvs, H d = some (.dK kvs) ∧ DA K H kvs W
theorem IsD.same {d : Addr} {W : List (Nat × List Nat)} (s : Same H H') (h : IsD K H d W) : IsD K H' d W := let ⟨kvs, e, a⟩ := h; ⟨kvs, s _ _ e, a.tk (Tk.same s)⟩
theorem IsD.ne {d p : Addr} {o : HO} {W : List (Nat × List Nat)} (t : Tk H (upd H p o)) (ne : d ≠ p) (h : IsD K H d W) : IsD K (upd H p o) d W := let ⟨kvs, e, a⟩ := h; ⟨kvs, by rw [upd_ne ne]; exact e, a.tk t⟩
/-- a look -/
theorem IsD.get {d : Addr} {W : List (Nat × List Nat)} (h : IsD K H d W) {k : Nat} {w : List Nat} (hk : (k, w) ∈ W) (nd : (W.map (·.1)).Nodup) : ∃ v, DGet H d (.int (k : Nat)) (some v) ∧ Is K H v (tn w) := by
  obtain ⟨kvs, e, a⟩ := h
  rcases a.get (k := k) with ⟨h1, _⟩ | ⟨v, w', h1, _, h2, h3⟩
  · exact absurd (List.mem_map.mpr ⟨_, hk, rfl⟩) h1
  · have : w' = w := by
      obtain ⟨i, hi, e1⟩ := List.mem_iff_getElem.mp h1
      obtain ⟨j, hj, e2⟩ := List.mem_iff_getElem.mp hk
      have ei : (W.map (·.1))[i]'(by simpa using hi) = (W.map (·.1))[j]'(by simpa using hj) := by simp [e1, e2]
      have := (List.getElem_inj nd).mp ei
      subst this
      rw [e1] at e2
      cases e2
      rfl
    subst this
    exact ⟨v, by rw [← h2]; exact DGet.k (k := .inl ((k : Nat) : Int)) e, h3⟩
theorem IsD.has {d : Addr} {W : List (Nat × List Nat)} (h : IsD K H d W) (k : Nat) : ∃ o, DGet H d (.int (k : Nat)) o ∧ o.isSome = decide (k ∈ W.map (·.1)) := by
  obtain ⟨kvs, e, a⟩ := h
  refine ⟨_, DGet.k (k := .inl ((k : Nat) : Int)) e, ?_⟩
  rcases a.get (k := k) with ⟨h1, h2⟩ | ⟨v, w, h1, _, h2, h3⟩
  · rw [h2, decide_eq_false h1]; rfl
  · rw [h2, decide_eq_true (List.mem_map.mpr ⟨_, h1, rfl⟩)]; rfl
/-- a new key -/
theorem IsD.put {d : Addr} {W : List (Nat × List Nat)} (h : IsD K H d W) {k : Nat} {w : List Nat} {v : V} (hk : k ∉ W.map (·.1)) (hv : Is K H v (tn w)) (hz : W.length < 1000) :
    ∃ H', DPut H d (.int (k : Nat)) v H' ∧ IsD K H' d (W ++ [(k, w)]) ∧ Tk H H' ∧ ∀ b, b ≠ d → H' b = H b := by
  obtain ⟨kvs, e, a⟩ := h
  have hn : valV kvs (.inl ((k : Nat) : Int)) = none := by
    rcases a.get (k := k) with ⟨h1, h2⟩ | ⟨v, w, h1, _, h2, h3⟩
    · exact h2
    · exact absurd (List.mem_map.mpr ⟨_, h1, rfl⟩) hk
  refine ⟨_, DPut.k (k := .inl ((k : Nat) : Int)) e (by rw [a.length]; exact lt_line (by omega)), ?_, Tk.dK e, fun b hb => upd_ne hb⟩
  rw [putK_new v hn]
  exact ⟨_, upd_same, (DA.snoc hv a).tk (Tk.dK e)⟩
end
/-- walks from s, found so far -/
structure SW0 (n : Nat) (t : Gd) (s : Nat) (W : List (Nat × List Nat)) : Prop where
  nd : (W.map (·.1)).Nodup
  ok : ∀ i w, (i, w) ∈ W → i < n ∧ Ch (Ed n t) w ∧ (∃ r, w = s :: r) ∧ w.getLast? = some i ∧ w.length ≤ W.length
  st : (s, [s]) ∈ W
theorem SW0.len {n : Nat} {t : Gd} {s : Nat} {W : List (Nat × List Nat)} (h : SW0 n t s W) : W.length ≤ n := by
  have := nodup_len (W.map (·.1)) (List.range n) h.nd fun x hx => by
    obtain ⟨⟨i, w⟩, hm, rfl⟩ := List.mem_map.mp hx
    exact List.mem_range.mpr (h.ok i w hm).1
  simpa using this
theorem SW0.put {n : Nat} {t : Gd} {s : Nat} {W : List (Nat × List Nat)} (h : SW0 n t s W) {i j : Nat} {w : List Nat} (hi : (i, w) ∈ W) (e : Ed n t i j) (hj : j ∉ W.map (·.1)) : SW0 n t s (W ++ [(j, w ++ [j])]) := by
  obtain ⟨h1, h2, ⟨r, h3⟩, h4, h5⟩ := h.ok i w hi
  refine ⟨?_, fun k v hk => ?_, List.mem_append_left _ h.st⟩
  · rw [List.map_append, List.nodup_append]
    refine ⟨h.nd, by simp, fun a ha b hb => ?_⟩
    simp only [List.map_cons, List.map_nil, List.mem_singleton] at hb
    subst hb
    exact fun z => hj (z ▸ ha)
  · rcases List.mem_append.mp hk with hk | hk
    · obtain ⟨g1, g2, g3, g4, g5⟩ := h.ok k v hk
      exact ⟨g1, g2, g3, g4, by rw [List.length_append]; omega⟩
    · simp only [List.mem_singleton, Prod.mk.injEq] at hk
      obtain ⟨rfl, rfl⟩ := hk
      refine ⟨e.2.1, ?_, ⟨r ++ [k], by rw [h3]; rfl⟩, by simp, by rw [List.length_append, List.length_append]; simp; omega⟩
      obtain ⟨u, hu⟩ : ∃ u, w = u ++ [i] := by
        have := List.getLast?_eq_some_iff.mp h4
        exact this
      subst hu
      exact ch_snoc h2 e
/-- .. all of them -/
structure SW (n : Nat) (t : Gd) (s : Nat) (W : List (Nat × List Nat)) : Prop extends SW0 n t s W where
  cl : ∀ i, i ∈ W.map (·.1) → ∀ j, Ed n t i j → j ∈ W.map (·.1)
theorem SW.rc {n : Nat} {t : Gd} {s : Nat} {W : List (Nat × List Nat)} (h : SW n t s W) {i : Nat} : i ∈ W.map (·.1) ↔ Rc (Ed n t) s i := by
  constructor
  · intro hi
    obtain ⟨⟨i', w⟩, hm, rfl⟩ := List.mem_map.mp hi
    obtain ⟨h1, h2, ⟨r, rfl⟩, h4, h5⟩ := h.ok i' w hm
    exact rc_walk _ _ _ h2 h4
  · intro hr
    induction hr with
    | refl => exact List.mem_map.mpr ⟨_, h.st, rfl⟩
    | step _ e ih => exact h.cl _ ih _ e
section
variable {P : Program} {w : World} {K : PySem.W.Frag} {mg : Str → Option Value} {base : Heap}
def sp_least_first (K : PySem.W.Frag) : Sp := fun vs H Q _ => ∃ x, vs = [x] ∧ ∃ (r : List Nat), IsR H x r ∧ r ≠ [] ∧ r.length ≤ 100 ∧ ∀ H' v k, Same H H' → k < r.length → Is K H' v (tn (r.drop k ++ r.take k)) → Q v H'
abbrev n_least_first : List Str := ["ring", "at"]
theorem sc_least_first : FnScope n_least_first ["ring"] (defScope s_least_first) := ⟨rfl, rfl, rfl, by decide +kernel, rfl, by decide +kernel, by decide +kernel⟩
theorem ok_least_first (T : Txt K mg) : Ok P w K mg base "least_first" ["ring"] 1 (sp_least_first K) := by
  refine T.x_least_first.ok sc_least_first (fun _ _ _ _ _ _ us hl => match us, hl with | [_], _ => rfl) (fun vs H Q E h => by obtain ⟨_, rfl, _⟩ := h; rfl) (fun f cdv A outer s H vs Q E hr h => ?_)
  obtain ⟨x, rfl, r, hx, hne, hz, q⟩ := h
  obtain ⟨a, ob, rfl, h1, h2⟩ := id hx
  have hI : Is K H (.ref a) (tn r) := hx.is
  refine ⟨_, (pss_cons (ps_set (i := 1) sc_least_first.nd rfl (.inl rfl) (pe_tindex rfl (pv 0) (pa_cons (pe_callB (cr_minT rfl hr.units) (by rfl) T.b_min bt_min (pa_cons (pv 0) pa_nil)) pa_nil)))
    (pss_one (ps_ret (pe_op op_catA (pe_slice sl_tupA (pv 0) (po_some (pv 1)) po_none) (pe_slice sl_tupA (pv 0) po_none (po_some (pv 1))))))), ?_⟩
  dsimp only [tVar, tC, tAdd, tSub, tMul, t2I, tCmp, tIsN, tNotN, tB, tAnd, tOr, tNot, tAndV, tOrV, tNotV, tIf, tSeq, tNext, tDrop, tRet, tRetN, tIfS, tAsg, tAug, tPar, gName, gNil, gCons, gSub, tOp, tUn, tTest, tChain, tCons, tNil, tTup, tLst, tCall, tCB, tMake, tFld, sFld, tNoPart, tPart, tSl, tBM, tBM0, rI0, rI, tYes, Cx.nox, Cx.blk, cxOf, List.nil_append, List.cons_append]
  refine ⟨_, rfl, hx.nod, _, rfl, a, r.map (fun i => ((i : Nat) : Int)), rfl, by rw [← vn_ints]; exact .inl (.inr ⟨ob, h1⟩), by simpa using hne, fun m hm hle => ?_⟩
  obtain ⟨m', hm', rfl⟩ := List.mem_map.mp hm
  refine ⟨a, ob, r.map (fun i => ((i : Nat) : Int)), _, rfl, by rw [← vn_ints]; exact h1, rfl, hm, ?_⟩
  have hk : (r.map fun i => ((i : Nat) : Int)).idxOf ((m' : Nat) : Int) < r.length := by
    have := List.idxOf_lt_length_of_mem hm
    simpa using this
  generalize hkk : (r.map fun i => ((i : Nat) : Int)).idxOf ((m' : Nat) : Int) = k at hk
  refine ⟨_, rfl, _, rfl, _, rfl, ?_⟩
  refine r_sl hI fun H1 v1 s1 i1 => ⟨_, rfl, _, rfl, _, rfl, ?_⟩
  rw [cut_drop _ (by rw [List.length_map]; omega)] at i1
  refine r_sl (hI.same s1) fun H2 v2 s2 i2 => ?_
  rw [cut_take _ (by rw [List.length_map]; omega)] at i2
  refine r_cat (i1.same s2) i2 (le_line (by simp; omega)) fun H3 v3 s3 i3 => q H3 v3 k ((s1.trans s2).trans s3) hk ?_
  have e : tn (r.drop k ++ r.take k) = .tuple ((r.map nat).drop k ++ (r.map nat).take k) := by
    unfold tn
    rw [List.map_append, List.map_drop, List.map_take]
  rw [e]
  exact i3
/-- all walks from s that the ties let -/
def sp_shortest_walks (K : PySem.W.Frag) : Sp := fun vs H Q _ => ∃ x y, vs = [x, y] ∧ ∃ (l : Addr) (n b : Nat) (t : Gd) (s : Nat), x = .ref l ∧ IsLL K H l (tcs t) ∧ Sq n b t ∧ n ≤ 10 ∧ y = .int (s : Nat) ∧ s < n ∧
  ∀ H' d W, Same H H' → H d = none → IsD K H' d W → SW n t s W → Q (.ref d) H'
theorem mem_keys_app {W : List (Nat × List Nat)} {p : Nat × List Nat} {i : Nat} : i ∈ (W ++ [p]).map (·.1) ↔ i ∈ W.map (·.1) ∨ i = p.1 := by simp
abbrev n_shortest_walks : List Str := ["ties", "start", "found", "waiting", "place", "goal", "tie"]
theorem sc_shortest_walks : FnScope n_shortest_walks ["ties", "start"] (defScope s_shortest_walks) := ⟨rfl, rfl, rfl, by decide +kernel, rfl, by decide +kernel, by decide +kernel⟩
theorem ok_shortest_walks (T : Txt K mg) : Ok P w K mg base "shortest_walks" ["ties", "start"] 1 (sp_shortest_walks K) := by
  refine T.x_shortest_walks.ok sc_shortest_walks (fun _ _ _ _ _ _ us hl => match us, hl with | [_, _], _ => rfl) (fun vs H Q E h => by obtain ⟨_, _, rfl, _⟩ := h; rfl) (fun f cdv A outer s H vs Q E hr h => ?_)
  obtain ⟨_, _, rfl, l, n, b, t, st, rfl, hl, sq, hn, rfl, hs, q⟩ := h
  refine ⟨_, (pss_cons (ps_set (i := 2) sc_shortest_walks.nd rfl (.inl rfl) (pe_disp (pps_cons (pv 1) (pe_tup (pa_cons (pv 1) pa_nil)) pps_nil) rfl rfl (by simp) (by decide)))
    (pss_cons (ps_set (i := 3) sc_shortest_walks.nd rfl (.inl rfl) (pe_lst (pa_cons (pv 1) pa_nil)))
    (pss_cons (ps_while PassesOwn.never (pt_cmpR op_gt (pe_callB call_lenO (by rfl) T.b_len bt_len (pa_cons (pv 3) pa_nil)) pe_int (nomark _))
      (pss_cons (ps_set (i := 4) sc_shortest_walks.nd rfl (.inl rfl) (pe_bm PySem.F.plainAttrs_list PySem.F.slot_list_pop PySem.F.type_list_pop mt_popAt (pv 3) (pa_cons pe_int pa_nil)))
      (pss_one (ps_for PassesOwn.never rfl (pi_enum rfl T.b_enumerate (pa_cons (pe_ix ix_list (pv 0) (pv 4) (fun _ _ => rfl)) pa_nil)) (by refine pg2 (i := 5) (j := 6) K rfl sc_shortest_walks.nd ?_ ?_ ?_ ?_ ?_ ?_ ?_ <;> first | rfl | exact .inl rfl | exact .inr rfl)
        (pss_one (ps_if (PW.pt (pw_and (pt_cmp (pc_notN (pv 6))) (pw_and1 (pt_cmp (pc_dnotin (hu_of hr) (pv 5) (pv 2))))))
          (pss_cons (ps_dput (hu_of hr) (pv 2) (pv 5) (pe_op op_catA (pe_dget (hu_of hr) (pv 2) (pv 4) (fun _ _ => rfl)) (pe_tup (pa_cons (pv 5) pa_nil))) rfl)
          (pss_one (ps_expr (pe_bm PySem.F.plainAttrs_list PySem.F.slot_list_append PySem.F.type_list_append mt_append (pv 3) (pa_cons (pv 5) pa_nil)))))
          pss_nil))))))
    (pss_one (ps_ret (pv 2)))))), ?_⟩
  dsimp only [tVar, tC, tAdd, tSub, tMul, t2I, tCmp, tIsN, tNotN, tB, tAnd, tOr, tNot, tAndV, tOrV, tNotV, tIf, tSeq, tNext, tDrop, tRet, tRetN, tIfS, tAsg, tAug, tPar, gName, gNil, gCons, gSub, tOp, tUn, tTest, tChain, tCons, tNil, tTup, tLst, tCall, tCB, tMake, tFld, sFld, tNoPart, tPart, tSl, tBM, tBM0, rI0, rI, tYes, Cx.nox, Cx.blk, cxOf, List.nil_append, List.cons_append, tDGet, sDPut, tDNotIn]
  intro d nd
  refine ⟨_, rfl, _, rfl, one_le, fun tp ntp => ⟨?_, [(.inl ((st : Nat) : Int), .ref tp)], rfl, by show 1 ≤ 15; decide, ?_⟩⟩
  · have ne : d ≠ tp := fun z => by rw [← z, upd_same] at ntp; cases ntp
    rw [upd_ne ne, upd_same]
  have ned : d ≠ tp := fun z => by rw [← z, upd_same] at ntp; cases ntp
  have e0 : upd (upd (upd H d (.dK [])) tp (.tup [.int (st : Nat)])) d (.dK []) = upd (upd H d (.dK [])) tp (.tup [.int (st : Nat)]) := by
    funext c
    by_cases hc : c = d
    · subst hc
      rw [upd_same, upd_ne ned, upd_same]
    · rw [upd_ne hc]
  have s0 : Same H (upd (upd (upd H d (.dK [])) tp (.tup [.int (st : Nat)])) d (.dK (mergeK [] [(.inl ((st : Nat) : Int), .ref tp)]))) := ((same_upd nd).new ntp).out nd
  have hd0 : IsD K (upd (upd (upd H d (.dK [])) tp (.tup [.int (st : Nat)])) d (.dK (mergeK [] [(.inl ((st : Nat) : Int), .ref tp)]))) d [(st, [st])] :=
    ⟨_, upd_same, rfl, (Is.mk ntp (IsA.one (.int _))).tk (Tk.dK (xs := []) (by rw [upd_ne ned, upd_same])), trivial⟩
  generalize upd (upd (upd H d (.dK [])) tp (.tup [.int (st : Nat)])) d (.dK (mergeK [] [(.inl ((st : Nat) : Int), .ref tp)])) = H0 at s0 hd0
  refine ⟨_, rfl, one_le, fun qa nq => ?_⟩
  have neq : d ≠ qa := fun z => by
    obtain ⟨_, e, _⟩ := hd0
    rw [← z, e] at nq
    cases nq
  have nqH : H qa = none := s0.free nq
  refine ⟨fun m σ H' => (∃ y4 y5 y6, σ = [some (.ref l), some (.int (st : Nat)), some (.ref d), some (.ref qa), y4, y5, y6]) ∧ Same H H' ∧ ∃ (W : List (Nat × List Nat)) (qs : List Nat), IsD K H' d W ∧ H' qa = some (.lst (qs.map vn)) ∧ SW0 n t st W ∧ (∀ i ∈ qs, i ∈ W.map (·.1)) ∧ (∀ i ∈ W.map (·.1), i ∉ qs → ∀ j, Ed n t i j → j ∈ W.map (·.1)) ∧ 2 * (n - W.length) + qs.length = m ∧ m ≤ 21,
    ⟨2 * (n - 1) + 1, ⟨_, _, _, rfl⟩, s0.new nq, [(st, [st])], [st], hd0.ne (Tk.new nq) neq, upd_same, ⟨by simp, fun i w hw => ?_, by simp⟩, by simp, fun i hi hn => absurd (by simpa using hi) (by simpa using hn), rfl, by omega⟩, fun m σ H1 hW => ?_⟩
  · simp only [List.mem_singleton, Prod.mk.injEq] at hw
    obtain ⟨rfl, rfl⟩ := hw
    exact ⟨hs, trivial, ⟨[], rfl⟩, rfl, by simp⟩
  obtain ⟨⟨y4, y5, y6, rfl⟩, s1, W, qs, hD, hq, sw, hk, hcl, hm, hm21⟩ := hW
  refine ⟨_, rfl, _, _, rfl, LenO.l hq, _, _, rfl, rfl, _, rfl, ?_⟩
  cases qs with
  | nil =>
    refine ifF (by simp) ⟨_, rfl, q H1 d W s1 nd hD ⟨sw, fun i hi j e => hcl i hi (by simp) j e⟩⟩
  | cons pl qs =>
    refine ifT (by simp) ⟨fun σ' H' => (∃ y4 y5 y6, σ' = [some (.ref l), some (.int (st : Nat)), some (.ref d), some (.ref qa), y4, y5, y6]) ∧ Same H H' ∧ ∃ (W : List (Nat × List Nat)) (qs : List Nat), IsD K H' d W ∧ H' qa = some (.lst (qs.map vn)) ∧ SW0 n t st W ∧ (∀ i ∈ qs, i ∈ W.map (·.1)) ∧ (∀ i ∈ W.map (·.1), i ∉ qs → ∀ j, Ed n t i j → j ∈ W.map (·.1)) ∧ 2 * (n - W.length) + qs.length < m, fun σ' H' hN => ?_, ?_⟩
    · obtain ⟨g1, g2, W', qs', g3, g4, g5, g6, g7, g8⟩ := hN
      exact ⟨_, g8, g1, g2, W', qs', g3, g4, g5, g6, g7, rfl, by omega⟩
    have hpl := hk pl List.mem_cons_self
    obtain ⟨⟨pl', wp⟩, hwp, e1⟩ := List.mem_map.mp hpl
    have e1 : pl' = pl := e1
    subst e1
    obtain ⟨hpn, _⟩ := sw.ok _ _ hwp
    refine ⟨_, rfl, .inl ⟨rfl, _, SqL.of hq⟩, qa, _, 0, 0, _, rfl, rfl, hq, by decide, by decide, (ixN_seq (ixN_nat (j := 0) (by simp))).1, rfl, ?_⟩
    have eqs : ((pl' :: qs).map vn).eraseIdx 0 = qs.map vn := rfl
    rw [eqs]
    have s2 : Same H (upd H1 qa (.lst (qs.map vn))) := s1.out nqH
    have hD2 := hD.ne (Tk.lst (o := .lst (qs.map vn)) hq) neq
    have hq2 : upd H1 qa (.lst (qs.map vn)) qa = some (.lst (qs.map vn)) := upd_same
    generalize upd H1 qa (.lst (qs.map vn)) = H2 at s2 hD2 hq2
    dsimp only [tVar, tC, tAdd, tSub, tMul, t2I, tCmp, tIsN, tNotN, tB, tAnd, tOr, tNot, tAndV, tOrV, tNotV, tIf, tSeq, tNext, tDrop, tRet, tRetN, tIfS, tAsg, tAug, tPar, gName, gNil, gCons, gSub, tOp, tUn, tTest, tChain, tCons, tNil, tTup, tLst, tCall, tCB, tMake, tFld, sFld, tNoPart, tPart, tSl, tBM, tBM0, rI0, rI, tYes, Cx.nox, Cx.blk, cxOf, List.nil_append, List.cons_append, tDGet, sDPut, tDNotIn]
    obtain ⟨r, hr1, hr2, hr3⟩ := tcs_row sq hpn
    obtain ⟨a, ⟨ys, hys, hya⟩, zs, hz, hza⟩ := hl.at hr1
    have hyl : ys.length = n := by rw [hya.length, List.length_map, hr2]
    refine forF (B := H) (feedE (SqL.of hys)) (fun R r => ⟨_, rfl, _, rfl, l, zs, _, _, rfl, rfl, SqL.of (s2 _ _ hz), atI_nat hza, a, ys, rfl, SqL.of (s2 _ _ hys), r⟩)
      (fun j σ H' => (∃ y5 y6, σ = [some (.ref l), some (.int (st : Nat)), some (.ref d), some (.ref qa), some (.int (pl' : Nat)), y5, y6]) ∧ Same H H' ∧ ∃ (W : List (Nat × List Nat)) (qs : List Nat), IsD K H' d W ∧ H' qa = some (.lst (qs.map vn)) ∧ SW0 n t st W ∧ (∀ i ∈ qs, i ∈ W.map (·.1)) ∧ (pl', wp) ∈ W ∧
        (∀ i ∈ W.map (·.1), i ∉ qs → ∀ g, Ed n t i g → (i = pl' → g < j) → g ∈ W.map (·.1)) ∧ 2 * (n - W.length) + qs.length < m)
      ⟨⟨_, _, rfl⟩, s2, W, qs, hD2, hq2, sw, fun i hi => hk i (List.mem_cons_of_mem _ hi), hwp, fun i hi hn g e hg => ?_, by rw [← hm]; simp⟩ (fun _ _ _ h => h.2.1) (fun j x σ H3 H4 hj hP s3 it => ?_) (fun σ H3 hP => ?_)
    · by_cases ei : i = pl'
      · exact absurd (hg ei) (Nat.not_lt_zero _)
      · exact hcl i hi (by simp only [List.mem_cons, not_or]; exact ⟨ei, hn⟩) g e
    · obtain ⟨⟨y5, y6, rfl⟩, s4, W, qs, hD, hq, sw, hk, hwp, hcl, hm⟩ := hP
      obtain ⟨T', v, rfl, g1, g2⟩ := it
      have hjn : j < n := by omega
      obtain ⟨dd, hdd, hv⟩ := hya.get' g1
      rw [List.getElem?_map, hr3 j hjn] at hdd
      cases hdd
      have s5 := s4.trans s3
      have hv := hv.same s5
      have hD := hD.same s3
      have hq := s3 _ _ hq
      refine gPair g2 ?_
      dsimp only [tVar, tC, tAdd, tSub, tMul, t2I, tCmp, tIsN, tNotN, tB, tAnd, tOr, tNot, tAndV, tOrV, tNotV, tIf, tSeq, tNext, tDrop, tRet, tRetN, tIfS, tAsg, tAug, tPar, gName, gNil, gCons, gSub, tOp, tUn, tTest, tChain, tCons, tNil, tTup, tLst, tCall, tCB, tMake, tFld, sFld, tNoPart, tPart, tSl, tBM, tBM0, rI0, rI, tYes, Cx.nox, Cx.blk, cxOf, List.nil_append, List.cons_append, tDGet, sDPut, tDNotIn]
      -- nothing new
      have idle : (¬ Ed n t pl' j ∨ j ∈ W.map (·.1)) → (∃ y5' y6', [some (.ref l), some (.int (st : Nat)), some (.ref d), some (.ref qa), some (.int (pl' : Nat)), some (.int (j : Nat)), some v] = [some (.ref l), some (.int (st : Nat)), some (.ref d), some (.ref qa), some (.int (pl' : Nat)), y5', y6']) ∧ Same H H4 ∧ ∃ (W : List (Nat × List Nat)) (qs : List Nat), IsD K H4 d W ∧ H4 qa = some (.lst (qs.map vn)) ∧ SW0 n t st W ∧ (∀ i ∈ qs, i ∈ W.map (·.1)) ∧ (pl', wp) ∈ W ∧
        (∀ i ∈ W.map (·.1), i ∉ qs → ∀ g, Ed n t i g → (i = pl' → g < j + 1) → g ∈ W.map (·.1)) ∧ 2 * (n - W.length) + qs.length < m := fun hh =>
        ⟨⟨_, _, rfl⟩, s5, W, qs, hD, hq, sw, hk, hwp, fun i hi hn g e hg => by
          by_cases ei : i = pl'
          · have := hg ei
            by_cases eg : g = j
            · subst eg
              subst ei
              exact hh.elim (fun z => absurd e z) id
            · exact hcl i hi hn g e fun _ => by omega
          · exact hcl i hi hn g e fun z => absurd z ei, hm⟩
      refine ⟨_, rfl, _, rfl, ?_⟩
      cases hc : ce t pl' j with
      | none =>
        rw [hc] at hv
        refine ifF (by rw [hv.non_eq]; rfl) (ifF rfl (idle (.inl fun ⟨_, _, u, e⟩ => by rw [hc] at e; cases e)))
      | some u =>
        rw [hc] at hv
        have hv : Is K H4 v (un u) := hv
        refine ifT (by rw [decide_eq_false hv.notNon]; rfl) ?_
        obtain ⟨o, ho, hos⟩ := hD.has j
        refine ⟨_, rfl, _, rfl, d, o, rfl, ho, _, rfl, ?_⟩
        by_cases hj2 : j ∈ W.map (·.1)
        · exact ifF (by rw [hos, decide_eq_true hj2]; rfl) (idle (.inr hj2))
        · refine ifT (by rw [hos, decide_eq_false hj2]; rfl) ?_
          obtain ⟨v2, hg2, hv2⟩ := hD.get hwp sw.nd
          have hlen := (sw.ok _ _ hwp).2.2.2.2
          have hWl := sw.len
          refine ⟨_, rfl, _, rfl, d, v2, rfl, hg2, _, rfl, one_le, fun p2 np2 => ?_⟩
          refine r_cat (hv2.same (same_upd np2)) (Is.mk np2 (IsA.one (.int _))) (le_line (by simp; omega)) fun H5 v3 s6 hv3 => ?_
          have s7 : Same H4 H5 := (same_upd np2).trans s6
          have hv3 : Is K H5 v3 (tn (wp ++ [j])) := by
            have e : tn (wp ++ [j]) = .tuple (wp.map nat ++ [.int (j : Nat)]) := by unfold tn; rw [List.map_append]; rfl
            rw [e]
            exact hv3
          obtain ⟨H6, hput, hD6, t6, k6⟩ := (hD.same s7).put hj2 hv3 (by omega)
          refine ⟨_, rfl, _, rfl, d, H6, rfl, hput, ?_⟩
          have hq6 : H6 qa = some (.lst (qs.map vn)) := by rw [k6 qa (Ne.symm neq)]; exact s7 _ _ hq
          have s8 : Same H H6 := fun b o e => by
            have ne : b ≠ d := ne_of_none e nd
            rw [k6 b ne]
            exact (s5.trans s7) _ _ e
          have edge : Ed n t pl' j := ⟨hpn, hjn, u, hc⟩
          have sw6 := sw.put hwp edge hj2
          refine ⟨_, rfl, .inl ⟨rfl, _, SqL.of hq6⟩, _, rfl, qa, _, _, rfl, rfl, hq6, by rw [List.length_map]; exact lt_line (by omega), ⟨_, _, rfl⟩, s8.out nqH, _, qs ++ [j], hD6.ne (Tk.lst hq6) neq, by rw [upd_same, List.map_append]; rfl, sw6, fun i hi => ?_, List.mem_append_left _ hwp, fun i hi hn g e hg => ?_, ?_⟩
          · rw [mem_keys_app]
            rcases List.mem_append.mp hi with z | z
            · exact .inl (hk i z)
            · exact .inr (by simpa using z)
          · rw [mem_keys_app] at hi ⊢
            simp only [List.mem_append, List.mem_singleton, not_or] at hn
            rcases hi with hi | hi
            · by_cases eg : g = j
              · exact .inr eg
              · refine .inl (hcl i hi hn.1 g e fun z => ?_)
                have := hg z
                omega
            · exact absurd hi hn.2
          · have := sw6.len
            rw [List.length_append] at this ⊢
            simp only [List.length_cons, List.length_nil, List.length_append] at this ⊢
            omega
    · obtain ⟨⟨y5, y6, rfl⟩, s4, W, qs, hD, hq, sw, hk, hwp, hcl, hm⟩ := hP
      exact ⟨⟨_, _, _, rfl⟩, s4, W, qs, hD, hq, sw, hk, fun i hi hn j e => hcl i hi hn j e fun _ => by rw [hyl]; exact e.2.1, hm⟩
end
end UG
end
section
/-! Unitgrids, heights.py: heights on the ties of rings. -/
namespace UG
open PySem PySem.Spec PyProof.Rows L2 RZ UM
section
variable {K : PySem.W.Frag} {H H' B : Hp}
/-- the keys of a locked dict -/
theorem feedK {d : Addr} {ob : Obj} {kvs : List (Key × V)} (h : B d = some (.frz ob (.dK kvs))) : Feed (Itk d ob kvs) kvs.length B (fun i x _ => ∃ p, kvs[i]? = some p ∧ x = kV p.1) where
  go := fun i H s hi => ⟨s _ _ h, hi⟩
  stop := fun H s => ⟨s _ _ h, Nat.le_refl _⟩
  yld := fun i H x H' s hi y => by
    obtain ⟨e, k, v, h1, h2⟩ := y
    exact ⟨by rw [e]; exact Same.refl _, (k, v), h1, h2⟩
def IsDf (K : PySem.W.Frag) (H : Hp) (d : Addr) (W : List (Nat × List Nat)) : Prop := ∃ kvs, Rd H d (.dK kvs) ∧ DA K H kvs W
theorem IsDf.get {d : Addr} {W : List (Nat × List Nat)} (h : IsDf K H d W) {k : Nat} {w : List Nat} (hk : (k, w) ∈ W) (nd : (W.map (·.1)).Nodup) : ∃ v, DGet H d (.int (k : Nat)) (some v) ∧ Is K H v (tn w) := by
  obtain ⟨kvs, e, a⟩ := h
  rcases a.get (k := k) with ⟨h1, _⟩ | ⟨v, w', h1, _, h2, h3⟩
  · exact absurd (List.mem_map.mpr ⟨_, hk, rfl⟩) h1
  · have : w' = w := by
      obtain ⟨i, hi, e1⟩ := List.mem_iff_getElem.mp h1
      obtain ⟨j, hj, e2⟩ := List.mem_iff_getElem.mp hk
      have ei : (W.map (·.1))[i]'(by simpa using hi) = (W.map (·.1))[j]'(by simpa using hj) := by simp [e1, e2]
      have := (List.getElem_inj nd).mp ei
      subst this
      rw [e1] at e2
      cases e2
      rfl
    subst this
    exact ⟨v, .inl ⟨kvs, .inl ((k : Nat) : Int), e, rfl, h2.symm⟩, h3⟩
theorem DA.at : ∀ {kvs : List (Key × V)} {W : List (Nat × List Nat)} {i : Nat} {p : Key × V}, DA K H kvs W → kvs[i]? = some p → ∃ k w, W[i]? = some (k, w) ∧ kV p.1 = .int (k : Nat)
  | [], [], _, _, _, e => by simp at e
  | p :: _, q :: _, 0, _, h, e => by
    simp at e
    subst e
    exact ⟨q.1, q.2, rfl, by rw [h.1]; rfl⟩
  | _ :: _, _ :: _, i + 1, _, h, e => by
    obtain ⟨k, w, h1, h2⟩ := DA.at (i := i) h.2.2 (by simpa using e)
    exact ⟨k, w, by simpa using h1, h2⟩
end
/-- a potential on what s leads to -/
def PotV (n b : Nat) (t : Gd) (s : Nat) : Prop := ∀ k, k < b → ∃ f : Nat → Int, ∀ x y, Rc (Ed n t) s x → Ed n t x y → f y = f x + ex t k x y
/-- what a walk weighs -/
def wt (b : Nat) (t : Gd) (w : List Nat) : Ut := vec b fun k => ws (ex t k) w
/-- the heights of places: from one origin each, by walks; origins go along ties -/
structure HI (n b : Nat) (t : Gd) (F : Nat → Option Ut) (o : Nat → Nat) (wk : Nat → List Nat) : Prop where
  wlk : ∀ x u, x < n → F x = some u → o x < n ∧ Ch (Ed n t) (wk x) ∧ (∃ r, wk x = o x :: r) ∧ (wk x).getLast? = some x ∧ u = wt b t (wk x)
  go : ∀ x u y, F x = some u → Ed n t x y → (F y).isSome = true ∧ o y = o x
/-- a new origin -/
theorem HI.put {n b s : Nat} {t : Gd} {F F' : Nat → Option Ut} {o : Nat → Nat} {wk : Nat → List Nat} {W : List (Nat × List Nat)} (h : HI n b t F o wk) (sym : ∀ x y, Ed n t x y → Rc (Ed n t) y x) (hs : s < n) (sw : SW n t s W)
    (h1 : ∀ x w, (x, w) ∈ W → F' x = some (wt b t w)) (h2 : ∀ x, x ∉ W.map (·.1) → F' x = F x) : ∃ o' wk', HI n b t F' o' wk' := by
  have back : ∀ x y, y ∈ W.map (·.1) → Ed n t x y → x ∈ W.map (·.1) := fun x y hy e => sw.rc.mpr ((sw.rc.mp hy).trans (sym x y e))
  refine ⟨fun x => if x ∈ W.map (·.1) then s else o x, fun x => if x ∈ W.map (·.1) then (W.lookup x).getD [] else wk x, fun x u hx hu => ?_, fun x u y hu e => ?_⟩
  · by_cases hm : x ∈ W.map (·.1)
    · obtain ⟨⟨x', w⟩, hw, rfl⟩ := List.mem_map.mp hm
      obtain ⟨g1, g2, g3, g4, g5⟩ := sw.ok x' w hw
      have el : W.lookup x' = some w := by
        have hnd := sw.nd
        clear h1 h2 back sw hm g1 g2 g3 g4 g5
        induction W with
        | nil => cases hw
        | cons q W ih =>
          obtain ⟨q1, q2⟩ := q
          rw [List.map_cons, List.nodup_cons] at hnd
          rcases List.mem_cons.mp hw with e | hw
          · cases e; simp
          · rw [List.lookup_cons]
            have : (x' == q1) = false := by
              have ne : x' ≠ q1 := fun z => hnd.1 (z ▸ List.mem_map.mpr ⟨_, hw, rfl⟩)
              simpa using ne
            rw [this]
            exact ih hw hnd.2
      rw [h1 x' w hw] at hu
      simp only [if_pos hm, el, Option.getD_some]
      exact ⟨hs, g2, g3, g4, (Option.some.inj hu).symm⟩
    · simp only [if_neg hm]
      rw [h2 x hm] at hu
      exact h.wlk x u hx hu
  · by_cases hm : x ∈ W.map (·.1)
    · have hy := sw.cl x hm y e
      simp only [if_pos hm, if_pos hy]
      obtain ⟨⟨y', w⟩, hw, rfl⟩ := List.mem_map.mp hy
      exact ⟨by rw [h1 y' w hw]; rfl, trivial⟩
    · have hy : y ∉ W.map (·.1) := fun z => hm (back x y z e)
      simp only [if_neg hm, if_neg hy]
      rw [h2 x hm] at hu
      rw [h2 y hy]
      exact h.go x u y hu e
theorem HI.fits {n b : Nat} {t : Gd} {F : Nat → Option Ut} {o : Nat → Nat} {wk : Nat → List Nat} (sq : Sq n b t) (h : HI n b t F o wk) (hp : ∀ s, s < n → PotV n b t s) {x y : Nat} {u u' v : Ut} (e : Ed n t x y) (hx : F x = some u) (hy : F y = some u') (hv : ce t x y = some v) : u' = ua u v := by
  obtain ⟨g1, g2, ⟨r, g3⟩, g4, g5⟩ := h.wlk x u e.1 hx
  obtain ⟨k1, k2, ⟨r', k3⟩, k4, k5⟩ := h.wlk y u' e.2.1 hy
  have ho := (h.go x u y hx e).2
  rw [ex_vec sq hv, g5, k5]
  unfold wt
  rw [ua_vec]
  refine vec_congr fun k hk => ?_
  obtain ⟨f, hf⟩ := hp (o x) g1 k hk
  rw [g3] at g2 g4 ⊢
  rw [k3, ho] at k2 k4 ⊢
  obtain ⟨a1, a2⟩ := ws_pot hf r (o x) x .refl g2 g4
  obtain ⟨b1, b2⟩ := ws_pot hf r' (o x) y .refl k2 k4
  rw [a1, b1, hf x y a2 e]
  omega
theorem Sq.lt {n b : Nat} {g : Gd} (h : Sq n b g) {i j : Nat} {u : Ut} (e : ce g i j = some u) : i < n ∧ j < n := by
  unfold ce at e
  rw [List.getD_eq_getElem?_getD, List.getD_eq_getElem?_getD] at e
  cases q : g[i]? with
  | none => rw [q] at e; simp at e
  | some r =>
    rw [q] at e
    simp only [Option.getD_some] at e
    cases q2 : r[j]? with
    | none => rw [q2] at e; simp at e
    | some c =>
      have h1 := (List.getElem?_eq_some_iff.mp q).1
      have h2 := (List.getElem?_eq_some_iff.mp q2).1
      rw [h.num] at h1
      rw [h.sq r (List.mem_of_getElem? q)] at h2
      exact ⟨h1, h2⟩
/-- ties of rings lead back -/
theorem in_sym {n b : Nat} {t : Gd} (sq : Sq n b t) {x y : Nat} (h : Ed n (mk n (inC n t)) x y) : Rc (Ed n (mk n (inC n t))) y x := by
  refine back (T := Ed n t) (R := fun a b => (a < n ∧ b < n) ∧ wsh (tb t) n a b = true) (I := Ed n (mk n (inC n t))) (fun a b h => ?_) (fun a b c h1 h2 => ⟨⟨h1.1.1, h2.1.2⟩, wsh_trans n h1.1.2 h1.2 h2.2⟩) (fun a b h => ?_) (fun a b => ?_) h
  · obtain ⟨ha, hb, u, e⟩ := h
    exact ⟨⟨ha, hb⟩, wsh_mono (by unfold tb; rw [e]; rfl) n⟩
  · have tc := wsh_tc n h.2
    clear h
    have up : ∀ a b, tb t a b = true → Ed n t a b := fun a b e => by
      unfold tb at e
      cases q : ce t a b with
      | none => rw [q] at e; cases e
      | some u => exact ⟨(sq.lt q).1, (sq.lt q).2, u, q⟩
    induction tc with
    | one e => exact .one (up _ _ e)
    | cons e _ ih => exact .cons (up _ _ e) ih
  · rw [in_ed]
    constructor
    · rintro ⟨h1, h2⟩
      exact ⟨h1, ⟨h1.2.1, h1.1⟩, h2⟩
    · rintro ⟨h1, h2⟩
      exact ⟨h1, h2.2⟩
section
variable {P : Program} {w : World} {K : PySem.W.Frag} {mg : Str → Option Value} {base : Heap}
def sp_ring_heights (K : PySem.W.Frag) : Sp := fun vs H Q _ => ∃ x y, vs = [x, y] ∧ ∃ (l : Addr) (n b : Nat) (t : Gd), x = .ref l ∧ IsLL K H l (tcs t) ∧ Sq n b t ∧ n ≤ 10 ∧ y = .int (b : Nat) ∧ 1 ≤ b ∧ b ≤ 2 ∧
  ∀ H' v, Same H H' → ((v = .non ∧ ¬ ∀ s, s < n → PotV n b (mk n (inC n t)) s) ∨ (v ≠ .non ∧ ∀ k, k < b → ∃ h : Nat → Int, ∀ x y, Ed n (mk n (inC n t)) x y → h y = h x + ex (mk n (inC n t)) k x y)) → Q v H'
theorem sh_frs : ∀ (u : Ut), (u.map fr).all (fun d => PyData.canLay0 d) = true
  | [] => rfl
  | n :: u => by
    rw [List.map_cons, List.all_cons, sh_frs u, fr_eq]
    rfl
theorem canLayAll_eq : ∀ ds : List PyData, PyData.canLayAll0 ds = ds.all fun d => PyData.canLay0 d
  | [] => rfl
  | d :: ds => by rw [PyData.canLayAll0, canLayAll_eq ds, List.all_cons]
theorem dep_frs : ∀ (u : Ut), PyData.depthAll (u.map fr) ≤ 1
  | [] => by simp [PyData.depthAll]
  | n :: u => by
    rw [List.map_cons, PyData.depthAll]
    refine Nat.max_le.mpr ⟨?_, dep_frs u⟩
    rw [fr_eq]
    simp [PyData.depth, PyData.depthAll]
theorem sh_un {u : Ut} (h : u.length < 100) : SeqAt.shaped (un u) = true := by
  unfold SeqAt.shaped un
  rw [Bool.and_eq_true, decide_eq_true_eq]
  refine ⟨?_, ?_⟩
  · rw [PyData.canLay0, canLayAll_eq]
    exact sh_frs u
  · rw [PyData.depth]
    have := dep_frs u
    omega
/-- heights as they stand -/
def hl (n : Nat) (F : Nat → Option Ut) : List PyData := (List.range n).map fun x => cel (F x)
abbrev n_ring_heights : List Str := ["ties", "bases", "inner", "heights", "start", "walks", "place", "row", "goal", "tie"]
theorem sc_ring_heights : FnScope n_ring_heights ["ties", "bases"] (defScope s_ring_heights) := ⟨rfl, rfl, rfl, by decide +kernel, rfl, by decide +kernel, by decide +kernel⟩
theorem ok_ring_heights (T : Txt K mg) : Ok P w K mg base "ring_heights" ["ties", "bases"] 6 (sp_ring_heights K) := by
  refine T.x_ring_heights.ok sc_ring_heights (fun _ _ _ _ _ _ us hl => match us, hl with | [_, _], _ => rfl) (fun vs H Q E h => by obtain ⟨_, _, rfl, _⟩ := h; rfl) (fun f cdv A outer s H vs Q E hr h => ?_)
  obtain ⟨_, _, rfl, l, n, b, t0, rfl, hl0, sq0, hn, rfl, hb1, hb2, q⟩ := h
  have sq := in_ok (n := n) sq0
  have sym : ∀ x y, Ed n (mk n (inC n t0)) x y → Rc (Ed n (mk n (inC n t0))) y x := fun x y e => in_sym sq0 e
  refine ⟨_, (pss_cons (ps_set (i := 2) sc_ring_heights.nd rfl (.inl rfl) (pc (ok_ring_ties T) hr rfl (pa_cons (pv 0) pa_nil)))
    (pss_cons (ps_set (i := 3) sc_ring_heights.nd rfl (.inl rfl) (pe_op op_rep (pe_lst (pa_cons pe_non pa_nil)) (pe_callB call_lenO (by rfl) T.b_len bt_len (pa_cons (pv 0) pa_nil))))
    (pss_cons (ps_for PassesOwn.never rfl (pi_range1 rfl T.b_range (pa_cons (pe_callB call_lenO (by rfl) T.b_len bt_len (pa_cons (pv 0) pa_nil)) pa_nil)) (pg_name (i := 4) sc_ring_heights.nd rfl (.inl rfl))
      (pss_one (ps_if (pt_cmp (pc_isN (pe_ix ix_list (pv 3) (pv 4) (fun _ _ => rfl))))
        (pss_cons (ps_set (i := 5) sc_ring_heights.nd rfl (.inl rfl) (pc (ok_shortest_walks T) hr rfl (pa_cons (pv 2) (pa_cons (pv 4) pa_nil))))
        (pss_one (ps_lock (ps_for PassesOwn.never rfl (pi_keys (pv 5)) (pg_name (i := 6) sc_ring_heights.nd rfl (.inl rfl))
          (pss_one (ps_asg (pc (ok_weight_of T) hr rfl (pa_cons (pv 2) (pa_cons (pe_dget (hu_of hr) (pv 5) (pv 6) (fun _ _ => rfl)) (pa_cons (pv 1) pa_nil)))) (pg_sub (pv 3) (pv 6) set_list)))))))
        pss_nil)))
    (pss_cons (ps_for PassesOwn.never rfl (pi_enum rfl T.b_enumerate (pa_cons (pv 2) pa_nil)) (by refine pg2 (i := 6) (j := 7) K rfl sc_ring_heights.nd ?_ ?_ ?_ ?_ ?_ ?_ ?_ <;> first | rfl | exact .inl rfl | exact .inr rfl)
      (pss_one (ps_for PassesOwn.never rfl (pi_enum rfl T.b_enumerate (pa_cons (pv 7) pa_nil)) (by refine pg2 (i := 8) (j := 9) K rfl sc_ring_heights.nd ?_ ?_ ?_ ?_ ?_ ?_ ?_ <;> first | rfl | exact .inl rfl | exact .inr rfl)
        (pss_one (ps_if (PW.pt (pw_and (pt_cmp (pc_notN (pv 9))) (pw_and1 (pt_cmpR (op_neD hr.units) (pe_ix ix_list (pv 3) (pv 8) (fun _ _ => rfl)) (pc (ok_unit_plus T) hr rfl (pa_cons (pe_ix ix_list (pv 3) (pv 6) (fun _ _ => rfl)) (pa_cons (pv 9) pa_nil))) (nomark _)))))
          (pss_one (ps_ret pe_non))
          pss_nil)))))
    (pss_one (ps_ret (pv 3))))))), ?_⟩
  dsimp only [tVar, tC, tAdd, tSub, tMul, t2I, tCmp, tIsN, tNotN, tB, tAnd, tOr, tNot, tAndV, tOrV, tNotV, tIf, tSeq, tNext, tDrop, tRet, tRetN, tIfS, tAsg, tAug, tPar, gName, gNil, gCons, gSub, tOp, tUn, tTest, tChain, tCons, tNil, tTup, tLst, tCall, tCB, tMake, tFld, sFld, tNoPart, tPart, tSl, tBM, tBM0, rI0, rI, tYes, Cx.nox, Cx.blk, cxOf, List.nil_append, List.cons_append, tDGet]
  refine ⟨_, rfl, _, rfl, l, n, b, t0, rfl, hl0, sq0, hn, fun H1 il s1 hil => ?_⟩
  generalize mk n (inC n t0) = t at q sq sym hil
  have hll := hl0.len
  rw [tcs_len sq0] at hll
  obtain ⟨ps, hps, hpl⟩ := hl0.sq
  rw [tcs_len sq0] at hpl
  have lenl : ∀ {H' : Hp}, Same H H' → LenO K H' (.ref l) n := fun s => by
    have := LenO.l (K := K) (s _ _ hps)
    rwa [hpl] at this
  refine ⟨one_le, fun c nc => ⟨_, rfl, _, _, rfl, lenl (s1.new nc), ?_⟩⟩
  refine ⟨c, _, _, rfl, rfl, upd_same, by omega, by omega, by simp; exact le_line (by omega), fun ha nha => ?_⟩
  have s2 : Same H1 (upd (upd H1 c (.lst [.non])) ha (.lst (List.replicate ((n : Nat) : Int).toNat [V.non]).flatten)) := (same_upd nc).new nha
  have n1 : H1 ha = none := (same_upd (o := .lst [.non]) nc).free nha
  have hh0 : IsL K (upd (upd H1 c (.lst [.non])) ha (.lst (List.replicate ((n : Nat) : Int).toNat [V.non]).flatten)) ha (hl n fun _ => none) := by
    refine ⟨_, upd_same, ?_⟩
    rw [Int.toNat_natCast, flat_one]
    unfold hl
    rw [List.map_const', List.length_range]
    exact IsA.rep .non n
  generalize upd (upd H1 c (.lst [.non])) ha (.lst (List.replicate ((n : Nat) : Int).toNat [V.non]).flatten) = H2 at s2 hh0
  dsimp only [tVar, tC, tAdd, tSub, tMul, t2I, tCmp, tIsN, tNotN, tB, tAnd, tOr, tNot, tAndV, tOrV, tNotV, tIf, tSeq, tNext, tDrop, tRet, tRetN, tIfS, tAsg, tAug, tPar, gName, gNil, gCons, gSub, tOp, tUn, tTest, tChain, tCons, tNil, tTup, tLst, tCall, tCB, tMake, tFld, sFld, tNoPart, tPart, tSl, tBM, tBM0, rI0, rI, tYes, Cx.nox, Cx.blk, cxOf, List.nil_append, List.cons_append, tDGet]
  refine forF (B := H1) (feedR 0 n) (fun R r => ⟨_, rfl, _, _, rfl, lenl (s1.trans s2), _, rfl, by omega, by omega, r⟩)
    (fun i σ H' => (∃ y4 y5 y6 y7 y8 y9, σ = [some (.ref l), some (.int (b : Nat)), some (.ref il), some (.ref ha), y4, y5, y6, y7, y8, y9]) ∧ Same H1 H' ∧ ∃ F o wk, IsL K H' ha (hl n F) ∧ HI n b t F o wk ∧ ∀ x, x < i → (F x).isSome = true)
    ⟨⟨_, _, _, _, _, _, rfl⟩, s2, _, fun _ => 0, fun _ => [], hh0, ⟨fun x u _ h => (nomatch h), fun x u y h => (nomatch h)⟩, fun x hx => absurd hx (Nat.not_lt_zero _)⟩ (fun _ _ _ h => h.2.1) (fun i x σ H3 H4 hi hP s it => ?_) (fun σ H3 hP => ?_)
  · obtain ⟨⟨y4, y5, y6, y7, y8, y9, rfl⟩, s3, F, o, wk, hF, hI, hlt⟩ := hP
    subst it
    rw [Int.zero_add]
    have s4 := s3.trans s
    have hF := hF.same s
    dsimp only [tVar, tC, tAdd, tSub, tMul, t2I, tCmp, tIsN, tNotN, tB, tAnd, tOr, tNot, tAndV, tOrV, tNotV, tIf, tSeq, tNext, tDrop, tRet, tRetN, tIfS, tAsg, tAug, tPar, gName, gNil, gCons, gSub, tOp, tUn, tTest, tChain, tCons, tNil, tTup, tLst, tCall, tCB, tMake, tFld, sFld, tNoPart, tPart, tSl, tBM, tBM0, rI0, rI, tYes, Cx.nox, Cx.blk, cxOf, List.nil_append, List.cons_append, tDGet]
    refine ⟨_, rfl, _, rfl, r_ixLn rfl hF rfl (range_get _ hi) fun v hv => ⟨_, rfl, ?_⟩⟩
    cases hFi : F i with
    | some u =>
      rw [hFi] at hv
      have hv : Is K H4 v (un u) := hv
      refine ifF (decide_eq_false hv.notNon) ⟨⟨_, _, _, _, _, _, rfl⟩, s4, F, o, wk, hF, hI, fun x hx => ?_⟩
      by_cases e : x = i
      · rw [e, hFi]; rfl
      · exact hlt x (by omega)
    | none =>
      rw [hFi] at hv
      refine ifT (decide_eq_true hv.non_eq) ⟨_, rfl, _, rfl, _, _, rfl, il, n, b, t, i, rfl, hil.same s4, sq, hn, rfl, hi, fun H5 d W s5 nd hD sw => ?_⟩
      obtain ⟨kvs, hkvs, hDA⟩ := hD
      have hWl := sw.toSW0.len
      have hkl := hDA.length
      have neda : d ≠ ha := fun z => by
        obtain ⟨_, e, _⟩ := hF
        rw [z, e] at nd
        cases nd
      have nd1 : H1 d = none := s4.free nd
      refine ⟨d, _, hkvs, trivial, fun od => ?_⟩
      have sL : Same H1 (upd H5 d (.frz od (.dK kvs))) := (s4.trans s5).out nd1
      have tkL : Tk H5 (upd H5 d (.frz od (.dK kvs))) := Tk.dK hkvs
      have hF5 : IsL K (upd H5 d (.frz od (.dK kvs))) ha (hl n F) := (hF.same s5).ne tkL (Ne.symm neda)
      -- the walks' dict locked, over H1
      have sB : Same (upd H1 d (.frz od (.dK kvs))) (upd H5 d (.frz od (.dK kvs))) := fun p u e => by
        by_cases hp : p = d
        · subst hp; rw [upd_same] at e ⊢; exact e
        · rw [upd_ne hp] at e ⊢; exact (s4.trans s5) _ _ e
      have hdB : (upd H1 d (.frz od (.dK kvs))) d = some (.frz od (.dK kvs)) := upd_same
      have n1B : (upd H1 d (.frz od (.dK kvs))) ha = none := by rw [upd_ne (Ne.symm neda)]; exact n1
      have hDL : DA K (upd H5 d (.frz od (.dK kvs))) kvs W := hDA.tk tkL
      have hilB : IsLL K (upd H1 d (.frz od (.dK kvs))) il (tcs t) := hil.same (same_upd nd1)
      generalize upd H5 d (.frz od (.dK kvs)) = H6 at sL hF5 sB hDL
      dsimp only [tVar, tC, tAdd, tSub, tMul, t2I, tCmp, tIsN, tNotN, tB, tAnd, tOr, tNot, tAndV, tOrV, tNotV, tIf, tSeq, tNext, tDrop, tRet, tRetN, tIfS, tAsg, tAug, tPar, gName, gNil, gCons, gSub, tOp, tUn, tTest, tChain, tCons, tNil, tTup, tLst, tCall, tCB, tMake, tFld, sFld, tNoPart, tPart, tSl, tBM, tBM0, rI0, rI, tYes, Cx.nox, Cx.blk, cxOf, List.nil_append, List.cons_append, tDGet]
      refine forF (B := upd H1 d (.frz od (.dK kvs))) (feedK hdB) (fun R r => ⟨_, rfl, d, od, rfl, .inl ⟨kvs, sB _ _ hdB, r⟩⟩)
        (fun j σ H' => (∃ y6 y7 y8 y9, σ = [some (.ref l), some (.int (b : Nat)), some (.ref il), some (.ref ha), some (.int (i : Nat)), some (.ref d), y6, y7, y8, y9]) ∧ Same (upd H1 d (.frz od (.dK kvs))) H' ∧ DA K H' kvs W ∧ ∃ F', IsL K H' ha (hl n F') ∧ (∀ x w, (x, w) ∈ W.take j → F' x = some (wt b t w)) ∧ ∀ x, x ∉ (W.take j).map (·.1) → F' x = F x)
        ⟨⟨_, _, _, _, rfl⟩, sB, hDL, F, hF5, fun x w h => (nomatch h), fun x _ => rfl⟩ (fun _ _ _ h => h.2.1) (fun j x σ H7 H8 hj hP s7 it => ?_) (fun σ H7 hP => ?_)
      · obtain ⟨⟨y6, y7, y8, y9, rfl⟩, s8, hDj, F', hF', g1, g2⟩ := hP
        obtain ⟨p, hp, rfl⟩ := it
        obtain ⟨k, wv, hkw, hkp⟩ := hDj.at hp
        rw [hkp]
        have s9 := s8.trans s7
        have hF' := hF'.same s7
        have hDj := hDj.tk (Tk.same s7)
        have hmem := List.mem_of_getElem? hkw
        obtain ⟨a1, a2, ⟨r, a3⟩, a4, a5⟩ := sw.ok k wv hmem
        obtain ⟨vw, hg, hvw⟩ := IsDf.get (K := K) (H := H8) (d := d) ⟨kvs, .inr ⟨od, s9 _ _ hdB⟩, hDj⟩ hmem sw.nd
        dsimp only [tVar, tC, tAdd, tSub, tMul, t2I, tCmp, tIsN, tNotN, tB, tAnd, tOr, tNot, tAndV, tOrV, tNotV, tIf, tSeq, tNext, tDrop, tRet, tRetN, tIfS, tAsg, tAug, tPar, gName, gNil, gCons, gSub, tOp, tUn, tTest, tChain, tCons, tNil, tTup, tLst, tCall, tCB, tMake, tFld, sFld, tNoPart, tPart, tSl, tBM, tBM0, rI0, rI, tYes, Cx.nox, Cx.blk, cxOf, List.nil_append, List.cons_append, tDGet]
        refine ⟨_, rfl, _, rfl, _, rfl, d, vw, rfl, hg, _, rfl, _, _, _, rfl, il, n, b, t, wv, rfl, hilB.same s9, sq, hvw, rfl, hb1, hb2, by rw [a3]; simp, a2, fun H9 z s10 hz => ?_⟩
        obtain ⟨ys, hys, hya⟩ := hF'.same s10
        have hyl : ys.length = n := by rw [hya.length]; unfold hl; simp
        refine ⟨_, rfl, _, rfl, ha, ys, _, k, rfl, rfl, hys, ixN_nat (by omega), ⟨_, _, _, _, rfl⟩, (s9.trans s10).out n1B, (hDj.tk (Tk.same s10)).tk (Tk.lst hys), fun x => if x = k then some (wt b t wv) else F' x, ?_, fun x w' hx => ?_, fun x hx => ?_⟩
        · have e : (hl n F').set k (un (wt b t wv)) = hl n fun x => if x = k then some (wt b t wv) else F' x := by
            unfold hl
            rw [range_set _ _ a1]
            refine range_congr fun x _ => ?_
            show _ = cel (if x = k then some (wt b t wv) else F' x)
            by_cases e : x = k
            · rw [if_pos e, if_pos e]; rfl
            · rw [if_neg e, if_neg e]
          rw [← e]
          exact IsL.put hys (hya.set hz k)
        · rw [take_succ hkw, List.mem_append, List.mem_singleton] at hx
          rcases hx with hx | hx
          · have ne : x ≠ k := fun z => by
              subst z
              obtain ⟨i', hi', e'⟩ := List.mem_iff_getElem.mp hx
              have hjl := (List.getElem?_eq_some_iff.mp hkw)
              rw [List.getElem_take] at e'
              rw [List.length_take] at hi'
              have ei : (W.map (·.1))[i']'(by simp; omega) = (W.map (·.1))[j]'(by simp; exact hjl.1) := by simp [e', hjl.2]
              have := (List.getElem_inj sw.nd).mp ei
              omega
            show (if x = k then _ else F' x) = _
            rw [if_neg ne]
            exact g1 x w' hx
          · cases hx
            show (if k = k then _ else F' k) = _
            rw [if_pos rfl]
        · rw [take_succ hkw, List.map_append, List.mem_append, not_or] at hx
          have ne : x ≠ k := fun z => hx.2 (by simp [z])
          show (if x = k then _ else F' x) = _
          rw [if_neg ne]
          exact g2 x hx.1
      · obtain ⟨⟨y6, y7, y8, y9, rfl⟩, s8, hDj, F', hF', g1, g2⟩ := hP
        rw [hkl, List.take_length] at g1 g2
        have hd7 := s8 _ _ hdB
        obtain ⟨o', wk', hI'⟩ := hI.put sym hi sw g1 g2
        have tk7 : Tk H7 (upd H7 d (.dK kvs)) := fun p xs r => by
          have ne : p ≠ d := fun z => by
            subst z
            rcases r with r | ⟨ob, r⟩
            · rw [hd7] at r; cases r
            · rw [hd7] at r; cases r
          rcases r with r | ⟨ob, r⟩
          · exact .inl (by rw [upd_ne ne]; exact r)
          · exact .inr ⟨ob, by rw [upd_ne ne]; exact r⟩
        refine ⟨hd7, ⟨_, _, _, _, _, _, rfl⟩, fun p u e => ?_, F', o', wk', hF'.ne tk7 (Ne.symm neda), hI', fun x hx => ?_⟩
        · have ne : p ≠ d := ne_of_none e nd1
          rw [upd_ne ne]
          exact s8 _ _ (by rw [upd_ne ne]; exact e)
        · by_cases hm : x ∈ W.map (·.1)
          · obtain ⟨⟨x', w'⟩, hw, rfl⟩ := List.mem_map.mp hm
            rw [g1 x' w' hw]
            rfl
          · rw [g2 x hm]
            by_cases e : x = i
            · exact absurd (e ▸ List.mem_map.mpr ⟨_, sw.st, rfl⟩) hm
            · exact hlt x (by omega)
  · obtain ⟨⟨y4, y5, y6, y7, y8, y9, rfl⟩, s3, F, o, wk, hF, hI, hlt⟩ := hP
    have full : ∀ x, x < n → ∃ u, F x = some u := fun x hx => by
      have := hlt x hx
      cases h : F x with
      | none => rw [h] at this; cases this
      | some u => exact ⟨u, rfl⟩
    dsimp only [tVar, tC, tAdd, tSub, tMul, t2I, tCmp, tIsN, tNotN, tB, tAnd, tOr, tNot, tAndV, tOrV, tNotV, tIf, tSeq, tNext, tDrop, tRet, tRetN, tIfS, tAsg, tAug, tPar, gName, gNil, gCons, gSub, tOp, tUn, tTest, tChain, tCons, tNil, tTup, tLst, tCall, tCB, tMake, tFld, sFld, tNoPart, tPart, tSl, tBM, tBM0, rI0, rI, tYes, Cx.nox, Cx.blk, cxOf, List.nil_append, List.cons_append, tDGet]
    obtain ⟨zs, hz, hzl⟩ := hil.sq
    rw [tcs_len sq] at hzl
    refine forF (B := H1) (feedE (SqL.of hz)) (fun R r => ⟨_, rfl, il, zs, rfl, SqL.of (s3 _ _ hz), r⟩)
      (fun i σ H' => (∃ y4 y5 y6 y7 y8 y9, σ = [some (.ref l), some (.int (b : Nat)), some (.ref il), some (.ref ha), y4, y5, y6, y7, y8, y9]) ∧ Same H1 H' ∧ IsL K H' ha (hl n F) ∧ ∀ x y u u' v, x < i → Ed n t x y → F x = some u → F y = some u' → ce t x y = some v → u' = ua u v)
      ⟨⟨_, _, _, _, _, _, rfl⟩, s3, hF, fun x y u u' v hx => absurd hx (Nat.not_lt_zero _)⟩ (fun _ _ _ h => h.2.1) (fun i x σ H4 H5 hi hP s it => ?_) (fun σ H4 hP => ?_)
    · obtain ⟨⟨y4, y5, y6, y7, y8, y9, rfl⟩, s4, hF, hok⟩ := hP
      obtain ⟨T', v, rfl, e1, e2⟩ := it
      obtain ⟨a, ds, rfl, hds, hla⟩ := hil.row_of hz e1
      have hi : i < n := by omega
      obtain ⟨r, hr1, hr2, hr3⟩ := tcs_row sq hi
      rw [hr1] at hds
      cases hds
      have s5 := s4.trans s
      obtain ⟨ys, hys, hya⟩ := hla
      have hyl : ys.length = n := by rw [hya.length, List.length_map, hr2]
      have hF := hF.same s
      refine gPair e2 ?_
      dsimp only [tVar, tC, tAdd, tSub, tMul, t2I, tCmp, tIsN, tNotN, tB, tAnd, tOr, tNot, tAndV, tOrV, tNotV, tIf, tSeq, tNext, tDrop, tRet, tRetN, tIfS, tAsg, tAug, tPar, gName, gNil, gCons, gSub, tOp, tUn, tTest, tChain, tCons, tNil, tTup, tLst, tCall, tCB, tMake, tFld, sFld, tNoPart, tPart, tSl, tBM, tBM0, rI0, rI, tYes, Cx.nox, Cx.blk, cxOf, List.nil_append, List.cons_append, tDGet]
      refine forF (B := H1) (feedE (SqL.of hys)) (fun R r => ⟨_, rfl, a, ys, rfl, SqL.of (s5 _ _ hys), r⟩)
        (fun j σ H' => (∃ y4 y5 y8 y9, σ = [some (.ref l), some (.int (b : Nat)), some (.ref il), some (.ref ha), y4, y5, some (.int (i : Nat)), some (.ref a), y8, y9]) ∧ Same H1 H' ∧ IsL K H' ha (hl n F) ∧ ∀ x y u u' v, (x < i ∨ (x = i ∧ y < j)) → Ed n t x y → F x = some u → F y = some u' → ce t x y = some v → u' = ua u v)
        ⟨⟨_, _, _, _, rfl⟩, s5, hF, fun x y u u' v hx => hok x y u u' v (hx.elim id fun z => absurd z.2 (Nat.not_lt_zero _))⟩ (fun _ _ _ h => h.2.1) (fun j x σ H6 H7 hj hP s6 it => ?_) (fun σ H6 hP => ?_)
      · obtain ⟨⟨y4, y5, y8, y9, rfl⟩, s7, hF, hok⟩ := hP
        obtain ⟨T2, v2, rfl, e3, e4⟩ := it
        have hj : j < n := by omega
        obtain ⟨dd, hdd, hv⟩ := hya.get' e3
        rw [List.getElem?_map, hr3 j hj] at hdd
        cases hdd
        have s8 := s7.trans s6
        have hF := hF.same s6
        have hv := hv.same s8
        have step : (∀ u u' v, Ed n t i j → F i = some u → F j = some u' → ce t i j = some v → u' = ua u v) → ∀ x y u u' v, (x < i ∨ (x = i ∧ y < j + 1)) → Ed n t x y → F x = some u → F y = some u' → ce t x y = some v → u' = ua u v := fun hh x y u u' v hx e f1 f2 f3 => by
          by_cases exy : x = i ∧ y = j
          · obtain ⟨rfl, rfl⟩ := exy
            exact hh u u' v e f1 f2 f3
          · exact hok x y u u' v (by omega) e f1 f2 f3
        refine gPair e4 ?_
        dsimp only [tVar, tC, tAdd, tSub, tMul, t2I, tCmp, tIsN, tNotN, tB, tAnd, tOr, tNot, tAndV, tOrV, tNotV, tIf, tSeq, tNext, tDrop, tRet, tRetN, tIfS, tAsg, tAug, tPar, gName, gNil, gCons, gSub, tOp, tUn, tTest, tChain, tCons, tNil, tTup, tLst, tCall, tCB, tMake, tFld, sFld, tNoPart, tPart, tSl, tBM, tBM0, rI0, rI, tYes, Cx.nox, Cx.blk, cxOf, List.nil_append, List.cons_append, tDGet]
        refine ⟨_, rfl, _, rfl, ?_⟩
        cases hc : ce t i j with
        | none =>
          rw [hc] at hv
          refine ifF (by rw [hv.non_eq]; rfl) (ifF rfl ⟨⟨_, _, _, _, rfl⟩, s8, hF, step fun u u' v _ _ _ f => by rw [hc] at f; cases f⟩)
        | some tv =>
          rw [hc] at hv
          have hv : Is K H7 v2 (un tv) := hv
          obtain ⟨ui, hui⟩ := full i hi
          obtain ⟨uj, huj⟩ := full j hj
          refine ifT (by rw [decide_eq_false hv.notNon]; rfl) ⟨_, rfl, _, rfl, r_ixLn rfl hF rfl (range_get _ hj) fun vj hvj => ⟨_, rfl, _, rfl, r_ixLn rfl hF rfl (range_get _ hi) fun vi hvi => ?_⟩⟩
          rw [huj] at hvj
          rw [hui] at hvi
          have lui : ui.length = b := by rw [(hI.wlk i ui hi hui).2.2.2.2]; exact vec_len _ _
          refine ⟨_, rfl, _, _, rfl, ui, tv, hvi, hv, by omega, fun H8 z s9 hz => ?_⟩
          have luj : uj.length = b := by rw [(hI.wlk j uj hj huj).2.2.2.2]; exact vec_len _ _
          refine r_ne (hvj.same s9) hz (sh_un (by omega)) (sh_un (by rw [ua_len lui (sq.ok _ _ _ hc)]; omega)) ⟨_, rfl, ?_⟩
          rw [show PyData.eqv (cel (some uj)) (un (ua ui tv)) = decide (uj = ua ui tv) from un_eqv _ _]
          by_cases he : uj = ua ui tv
          · refine ifF (by rw [decide_eq_true he]; rfl) ⟨⟨_, _, _, _, rfl⟩, s8.trans s9, hF.same s9, step fun u u' v _ f1 f2 f3 => ?_⟩
            rw [hui] at f1
            rw [huj] at f2
            rw [hc] at f3
            cases f1
            cases f2
            cases f3
            exact he
          · refine ifT (by rw [decide_eq_false he]; rfl) (q H8 .non ((s1.trans s8).trans s9) (.inl ⟨rfl, fun hp => he ?_⟩))
            exact hI.fits sq hp ⟨hi, hj, tv, hc⟩ hui huj hc
      · obtain ⟨⟨y4, y5, y8, y9, rfl⟩, s7, hF, hok⟩ := hP
        exact ⟨⟨_, _, _, _, _, _, rfl⟩, s7, hF, fun x y u u' v hx e => hok x y u u' v (by have := e.2.1; omega) e⟩
    · obtain ⟨⟨y4, y5, y6, y7, y8, y9, rfl⟩, s4, hF, hok⟩ := hP
      refine ⟨_, rfl, q H4 _ (s1.trans s4) (.inr ⟨(by intro z; cases z), fun k hk => ⟨fun x => ((F x).getD []).getD k 0, fun x y e => ?_⟩⟩)⟩
      obtain ⟨hx, hy, v, hc⟩ := e
      obtain ⟨ux, hux⟩ := full x hx
      obtain ⟨uy, huy⟩ := full y hy
      have := hok x y ux uy v (by omega) ⟨hx, hy, v, hc⟩ hux huy hc
      show ((F y).getD []).getD k 0 = ((F x).getD []).getD k 0 + ex t k x y
      have lux : ux.length = b := by rw [(hI.wlk x ux hx hux).2.2.2.2]; exact vec_len _ _
      rw [hux, huy, this]
      show (ua ux v).getD k 0 = ux.getD k 0 + ex t k x y
      rw [vec_of lux, ex_vec sq hc, ua_vec, vec_at _ hk, vec_at _ hk]
end
end UG
end
section
/-! Unitgrids, a rule that the layer lacks: name = {k: v for ..} on one line. -/
namespace UG
open PySem PySem.Spec PyProof.Rows L2 RZ
section
variable {X : Cx}
theorem ps_setDc {i : Nat} {y : Str} {py : Pos} {kx vx tg iter : Expr} {ifs : List Expr} {scope : Scope} {own : List (Str × Nat)} {pos spos : Pos} {wi : TI} {g : TG} {tt : TT} {tk tv : TE} (hc : X.calm = true) (hN : X.N.Nodup) (hy : X.N[i]? = some y) (hyl : X.env.scope.names.lookup y = some .local)
    (hsw : swapsWith (.DictComp kx vx [⟨tg, iter, ifs, 0⟩] scope pos) (some (.Name y py)) spos.line X.env = pure true) (hi : PI X tg iter wi) (ok : BlkOk X.N X.env.scope scope own)
    (hg : ∀ (s : Shared) (H : Hp) (C : Addr) (cl : List (Str × Addr)) (fp : List Addr), PG (X.blk s H scope (compEnvC scope cl C X.env) fp) tg g)
    (ht : ∀ (s : Shared) (H : Hp) (C : Addr) (cl : List (Str × Addr)) (fp : List Addr), PTs (X.blk s H scope (compEnvC scope cl C X.env) fp) ifs tt)
    (hk : ∀ (s : Shared) (H : Hp) (C : Addr) (cl : List (Str × Addr)) (fp : List Addr), PE (X.blk s H scope (compEnvC scope cl C X.env) fp) kx tk)
    (he : ∀ (s : Shared) (H : Hp) (C : Addr) (cl : List (Str × Addr)) (fp : List Addr), PE (X.blk s H scope (compEnvC scope cl C X.env) fp) vx tv) (hs : ∀ x, foldedSetIterable iter X.env x = pure x := by intro _; rfl) :
    PS X (.Assign [.Name y py] (.DictComp kx vx [⟨tg, iter, ifs, 0⟩] scope pos) spos) (tAsg (tDc wi g tt tk tv (own.map (·.2))) (gName i)) := by
  refine ⟨fun pins s σ H D I h => ?_⟩
  rw [exec_Assign_Name_used _ _ _ _ hsw]
  refine wpAny_bind (wpAny_standAt (wpAny_bind ?_))
  show wpAny _ X.A (do let _ ← comprehension (.DictComp kx vx [⟨tg, iter, ifs, 0⟩] scope pos) scope X.env (firstIterPos [⟨tg, iter, ifs, 0⟩] pos) newDict false (eval iter X.env) (some (assign (.Name y py) X.env))) _ _ s
  have h' : tDc wi g tt tk tv (own.map (·.2)) σ H (fun x H1 => gName i x σ H1 D.nx) := h
  refine wpAny_bind (thn (dc_core (Qf := fun _ s' => SP X pins D .next s') hc hN I hi ok hg ht hk he hs h' fun L C s' m H' I' q hn f => ?_) fun _ s' hq => wpAny_pure (wpAny_pure hq))
  show wpAny _ _ (assign (.Name y py) X.env (.ref L)) _ _ _
  refine wpAny_assign_Name (store_ok2 (v := V.ref L) I' hN hy (.inl hyl) rfl (fun s2 I2 ⟨a, sb, ha⟩ => ?_) (.inr hyl))
  obtain ⟨f0, f1, f2, f3, f4, f5⟩ := f
  have apart : C ≠ a := by
    rcases ha with z | z
    · rw [z]; exact f1
    · exact fun e => f4 y a z e.symm
  refine ⟨m, hn.sameBut sb apart, fun h3 sb3 => ?_⟩
  exact ⟨_, H', I2.turned (t' := s2.toks) (fun b o hb e => (sb3.2 b hb).trans e) f0 f1 f3 f4 f5, q⟩
theorem sw_trueD {kx vx : Expr} {gs : List Comprehension} {scope : Scope} {pos py : Pos} {y : Str} {l : Nat} {env : Env} (hk : env.scope.kind = .function) (hy : env.scope.names.lookup y = some .local) (hl : (py.line == pos.line) = true)
    (ha : (scope.names.any fun (n, k) => n == y && (k == .local || k == .cell)) = false) : swapsWith (.DictComp kx vx gs scope pos) (some (.Name y py)) l env = pure true := by
  have e1 : env.kindOf y = some .local := hy
  have e2 : env.blockKind = .function := by unfold Env.blockKind; rw [hk]; rfl
  unfold swapsWith
  simp only [e2, e1, ha, Expr.pos, hl]
  rfl
end
end UG
end
section
/-! Unitgrids, heights.py: two walks that weigh unlike. -/
namespace UG
open PySem PySem.Spec PyProof.Rows L2 RZ UM
/-! ### a dict comprehension -/
section
variable {wi : TI} {g : TG} {σ : L2.St} {H : Hp} {J : It} {n : Nat} {B : Hp} {item : Nat → V → Hp → Prop} {tt : TT} {tk tv : TE} {vs : List Nat} {Q : VK}
def DcNx (Pv : Addr → Nat → List (Key × V) → Hp → Prop) (L : Addr) (i : Nat) : Hp → Prop := fun H' => ∃ acc, H' L = some (.dK acc) ∧ acc.length ≤ i + 1 ∧ Pv L (i + 1) acc H'
def DcGot (Pv : Addr → Nat → List (Key × V) → Hp → Prop) (L : Addr) (i : Nat) (y : V) : V → Hp → Prop := fun z H5 => ∃ kvs k, y = kV k ∧ H5 L = some (.dK kvs) ∧ kvs.length < sizeLine ∧ DcNx Pv L i (upd H5 L (.dK (putK kvs k z)))
theorem dcF (fd : Feed J n B item) (hw : ∀ R : It → Hp → Prop, R J H → wi σ H R) (Pv : Addr → Nat → List (Key × V) → Hp → Prop) (h0 : ∀ L, H L = none → Pv L 0 [] (upd H L (.dK []))) (hB : ∀ L i acc H, Pv L i acc H → Same B H)
    (hs : ∀ L i x acc H2 H', H L = none → i < n → Pv L i acc H2 → H2 L = some (.dK acc) → acc.length ≤ i → Same H2 H' → item i x H' → g x (wipe σ vs) H' fun σ2 H2 => wipe σ2 vs = wipe σ vs ∧ tt σ2 H2 fun b H3 =>
      if b = true then tk σ2 H3 fun y H4 => tv σ2 H4 (DcGot Pv L i y) else DcNx Pv L i H3)
    (hd : ∀ L acc H2, H L = none → Pv L n acc H2 → H2 L = some (.dK acc) → acc.length ≤ n → Q (.ref L) H2) : tDc wi g tt tk tv vs σ H Q := by
  refine hw _ fun L hL => ?_
  refine ⟨fun i m H => i + m = n ∧ ∃ acc, H L = some (.dK acc) ∧ acc.length ≤ i ∧ Pv L i acc H, ⟨n, by omega, [], upd_same, Nat.le_refl _, h0 L hL⟩, fun i m H hW => ?_⟩
  obtain ⟨e, acc, ha, hl, hP⟩ := hW
  by_cases hi : i < n
  · refine .inr ⟨fd.go i H (hB _ _ _ _ hP) hi, DcNx Pv L i, fun H' hN => ⟨m - 1, by omega, by omega, hN⟩, fun x H' y => ?_⟩
    obtain ⟨s, it⟩ := fd.yld i H x H' (hB _ _ _ _ hP) hi y
    exact hs L i x acc H H' hL hi hP ha hl s it
  · have e : i = n := by omega
    subst e
    exact .inl ⟨fd.stop H (hB _ _ _ _ hP), hd L acc H hL hP ha hl⟩
end
/-! ### a dict from places to values -/
section
variable {K : PySem.W.Frag} {H H' : Hp}
def DP (K : PySem.W.Frag) (H : Hp) : List (Key × V) → List (Nat × PyData) → Prop
  | [], [] => True
  | p :: kvs, q :: W => p.1 = .inl ((q.1 : Nat) : Int) ∧ Is K H p.2 q.2 ∧ DP K H kvs W
  | _, _ => False
theorem DP.tk (t : Tk H H') : ∀ {kvs : List (Key × V)} {W : List (Nat × PyData)}, DP K H kvs W → DP K H' kvs W
  | [], [], _ => trivial
  | _ :: _, _ :: _, h => ⟨h.1, h.2.1.tk t, DP.tk t h.2.2⟩
theorem DP.snoc {k : Nat} {d : PyData} {v : V} (hv : Is K H v d) : ∀ {kvs : List (Key × V)} {W : List (Nat × PyData)}, DP K H kvs W → DP K H (kvs ++ [(.inl ((k : Nat) : Int), v)]) (W ++ [(k, d)])
  | [], [], _ => ⟨rfl, hv, trivial⟩
  | _ :: _, _ :: _, h => ⟨h.1, h.2.1, DP.snoc hv h.2.2⟩
theorem DP.length : ∀ {kvs : List (Key × V)} {W : List (Nat × PyData)}, DP K H kvs W → kvs.length = W.length
  | [], [], _ => rfl
  | _ :: _, _ :: _, h => by rw [List.length_cons, List.length_cons, DP.length h.2.2]
theorem DP.none {k : Nat} : ∀ {kvs : List (Key × V)} {W : List (Nat × PyData)}, DP K H kvs W → k ∉ W.map (·.1) → valV kvs (.inl ((k : Nat) : Int)) = none
  | [], [], _, _ => rfl
  | p :: kvs, q :: W, h, hk => by
    simp only [List.map_cons, List.mem_cons, not_or] at hk
    have ne : ¬ p.1 = .inl ((k : Nat) : Int) := fun z => hk.1 (by rw [h.1] at z; injection z with z; omega)
    rw [valV_neg ne]
    exact DP.none h.2.2 hk.2
theorem DP.get {k : Nat} {d : PyData} : ∀ {kvs : List (Key × V)} {W : List (Nat × PyData)}, DP K H kvs W → (k, d) ∈ W → (W.map (·.1)).Nodup → ∃ v, valV kvs (.inl ((k : Nat) : Int)) = some v ∧ Is K H v d
  | [], [], _, hk, _ => nomatch hk
  | p :: kvs, q :: W, h, hk, nd => by
    rw [List.map_cons, List.nodup_cons] at nd
    rcases List.mem_cons.mp hk with e | hk
    · subst e
      exact ⟨p.2, valV_pos h.1, h.2.1⟩
    · have ne : ¬ p.1 = .inl ((k : Nat) : Int) := fun z => nd.1 ((show q.1 = k by rw [h.1] at z; injection z with z; omega) ▸ List.mem_map.mpr ⟨_, hk, rfl⟩)
      rw [valV_neg ne]
      exact DP.get h.2.2 hk nd.2
end
theorem Tk.frzD {H : Hp} {d : Addr} {ob : Obj} {kvs : List (Key × V)} {o : HO} (h : H d = some (.frz ob (.dK kvs))) : Tk H (upd H d o) := fun p xs r => by
  have ne : p ≠ d := fun z => by
    subst z
    rcases r with r | ⟨ob, r⟩
    · rw [h] at r; cases r
    · rw [h] at r; cases r
  rcases r with r | ⟨ob, r⟩
  · exact .inl (by rw [upd_ne ne]; exact r)
  · exact .inr ⟨ob, by rw [upd_ne ne]; exact r⟩
theorem same_unlock {H3 H4 : Hp} {d : Addr} {u : HO} {od : Obj} (h : H3 d = some u) (s : Same (upd H3 d (.frz od u)) H4) : Same H3 (upd H4 d u) := fun p o e => by
  by_cases hp : p = d
  · subst hp
    rw [h] at e
    cases e
    exact upd_same
  · rw [upd_ne hp]
    exact s _ _ (by rw [upd_ne hp]; exact e)
theorem same_lock {H3 H4 : Hp} {d : Addr} {u : HO} {od : Obj} (n : H3 d = none) (s : Same H3 H4) : Same H3 (upd H4 d (.frz od u)) := s.out n
theorem ch_rev {E : Nat → Nat → Prop} : ∀ {l : List Nat}, Ch E l → Ch (fun a b => E b a) l.reverse
  | [], _ => trivial
  | [x], _ => trivial
  | x :: y :: l, h => by
    have ih := ch_rev (l := y :: l) h.2
    rw [List.reverse_cons] at ih
    rw [List.reverse_cons, List.reverse_cons]
    exact ch_snoc ih h.1
theorem rc_rev {E : Nat → Nat → Prop} {a b : Nat} (h : Rc (fun x y => E y x) a b) : Rc E b a := by
  induction h with
  | refl => exact .refl
  | step _ e ih => exact (Rc.of e).trans ih
theorem rc_rev' {E : Nat → Nat → Prop} {a b : Nat} (h : Rc E b a) : Rc (fun x y => E y x) a b := rc_rev (E := fun x y => E y x) h
/-- turned ties -/
def turnG (n : Nat) (t : Gd) : Gd := mk n fun i j => ce t j i
theorem turn_ed {n b : Nat} {t : Gd} (sq : Sq n b t) {i j : Nat} : Ed n (turnG n t) i j ↔ Ed n t j i := by
  unfold turnG
  rw [ed_mk]
  constructor
  · rintro ⟨hi, hj, u, e⟩
    exact ⟨hj, hi, u, e⟩
  · rintro ⟨hi, hj, u, e⟩
    exact ⟨hj, hi, u, e⟩
theorem turn_sq {n b : Nat} {t : Gd} (sq : Sq n b t) : Sq n b (turnG n t) := sq_mk fun i j u _ _ e => sq.ok _ _ _ e
/-- two walks from s to s that weigh unlike -/
structure Unl (n b : Nat) (t : Gd) (s : Nat) (w1 w2 : List Nat) : Prop where
  c1 : Ch (Ed n t) w1
  c2 : Ch (Ed n t) w2
  h1 : ∃ r, w1 = s :: r
  h2 : ∃ r, w2 = s :: r
  l1 : w1.getLast? = some s
  l2 : w2.getLast? = some s
  z1 : w1.length ≤ 50
  z2 : w2.length ≤ 50
  un : ∃ k, k < b ∧ ws (ex t k) w1 ≠ ws (ex t k) w2
theorem unl_of {n b s p q : Nat} {t : Gd} {wp wq wb : List Nat} {v : Ut} (sq : Sq n b t) (hp : Ch (Ed n t) wp) (hp1 : ∃ r, wp = s :: r) (hp2 : wp.getLast? = some p) (hq : Ch (Ed n t) wq) (hq1 : ∃ r, wq = s :: r) (hq2 : wq.getLast? = some q)
    (hb : Ch (Ed n (turnG n t)) wb) (hb1 : ∃ r, wb = s :: r) (hb2 : wb.getLast? = some q) (e : Ed n t p q) (hv : ce t p q = some v) (hne : wt b t wq ≠ ua (wt b t wp) v) (z1 : wp.length ≤ 11) (z2 : wq.length ≤ 11) (z3 : wb.length ≤ 11) :
    wb.reverse = q :: wb.reverse.drop 1 ∧ Unl n b t s (wp ++ [q] ++ wb.reverse.drop 1) (wq ++ wb.reverse.drop 1) := by
  obtain ⟨ub, rfl⟩ := List.getLast?_eq_some_iff.mp hb2
  obtain ⟨up, rfl⟩ := List.getLast?_eq_some_iff.mp hp2
  obtain ⟨uq, rfl⟩ := List.getLast?_eq_some_iff.mp hq2
  have er : (ub ++ [q]).reverse = q :: ub.reverse := by simp
  have ed : (ub ++ [q]).reverse.drop 1 = ub.reverse := by rw [er]; rfl
  rw [ed]
  have cb : Ch (Ed n t) (q :: ub.reverse) := by
    have := ch_rev hb
    rw [er] at this
    exact ch_mono (fun a b h => (turn_ed sq).mp h) this
  have lb : (q :: ub.reverse).getLast? = some s := by
    rw [← er, List.getLast?_reverse]
    obtain ⟨r, hr⟩ := hb1
    rw [hr]
    rfl
  refine ⟨er, ?_, ?_, ?_, ?_, ?_, ?_, ?_, ?_, ?_⟩
  · rw [List.append_assoc]
    exact ch_app (ch_snoc hp e) cb
  · rw [List.append_assoc]
    exact ch_app hq cb
  · obtain ⟨r, hr⟩ := hp1
    exact ⟨r ++ [q] ++ ub.reverse, by rw [hr]; rfl⟩
  · obtain ⟨r, hr⟩ := hq1
    exact ⟨r ++ ub.reverse, by rw [hr]; rfl⟩
  · rw [List.append_assoc, List.getLast?_append, show ([q] ++ ub.reverse).getLast? = some s from lb]
    rfl
  · rw [List.append_assoc, List.getLast?_append, show ([q] ++ ub.reverse).getLast? = some s from lb]
    rfl
  · simp at z1 z3 ⊢; omega
  · simp at z2 z3 ⊢; omega
  · rw [ex_vec sq hv] at hne
    unfold wt at hne
    rw [ua_vec] at hne
    have : ∃ k, k < b ∧ ws (ex t k) (uq ++ [q]) ≠ ws (ex t k) (up ++ [p]) + ex t k p q := by
      apply Classical.byContradiction
      intro hh
      exact hne (vec_congr fun k hk => Classical.byContradiction fun z => hh ⟨k, hk, z⟩)
    obtain ⟨k, hk, hk2⟩ := this
    refine ⟨k, hk, ?_⟩
    rw [show up ++ [p] ++ [q] ++ ub.reverse = up ++ [p] ++ q :: ub.reverse by simp, show uq ++ [q] ++ ub.reverse = uq ++ q :: ub.reverse by simp]
    rw [ws_app (ex t k) q (up ++ [p]) ub.reverse, ws_app (ex t k) q uq ub.reverse, ws_snoc]
    omega
theorem wt_len (b : Nat) (t : Gd) (w : List Nat) : (wt b t w).length = b := vec_len _ _
theorem lookup_of {x : Nat} {w : List Nat} : ∀ {W : List (Nat × List Nat)}, (x, w) ∈ W → (W.map (·.1)).Nodup → W.lookup x = some w
  | q :: W, hw, nd => by
    obtain ⟨q1, q2⟩ := q
    rw [List.map_cons, List.nodup_cons] at nd
    rcases List.mem_cons.mp hw with e | hw
    · cases e
      simp
    · rw [List.lookup_cons]
      have : (x == q1) = false := by
        have ne : x ≠ q1 := fun z => nd.1 (z ▸ List.mem_map.mpr ⟨_, hw, rfl⟩)
        simpa using ne
      rw [this]
      exact lookup_of hw nd.2
section
variable {P : Program} {w : World} {K : PySem.W.Frag} {mg : Str → Option Value} {base : Heap}
def sp_two_walks (K : PySem.W.Frag) : Sp := fun vs H Q _ => ∃ x y z u, vs = [x, y, z, u] ∧ ∃ (l : Addr) (n b : Nat) (t : Gd) (s : Nat), x = .ref l ∧ IsLL K H l (tcs t) ∧ Sq n b t ∧ n ≤ 10 ∧ y = .int (s : Nat) ∧ z = .int (s : Nat) ∧ s < n ∧ u = .int (b : Nat) ∧ 1 ≤ b ∧ b ≤ 2 ∧
  (∀ x y, Ed n t x y → Rc (Ed n t) y x) ∧ ∀ H' v, Same H H' → ((v = .non ∧ PotV n b t s) ∨ ∃ w1 w2, Is K H' v (.tuple [tn w1, tn w2]) ∧ Unl n b t s w1 w2) → Q v H'
abbrev n_two_walks : List Str := ["ties", "start", "goal", "bases", "ahead", "behind", "weights", "place", "later", "tie", "rest"]
theorem sc_two_walks : FnScope n_two_walks ["ties", "start", "goal", "bases"] (defScope s_two_walks) := ⟨rfl, rfl, rfl, by decide +kernel, rfl, by decide +kernel, by decide +kernel⟩
theorem ok_two_walks (T : Txt K mg) : Ok P w K mg base "two_walks" ["ties", "start", "goal", "bases"] 6 (sp_two_walks K) := by
  refine T.x_two_walks.ok sc_two_walks (fun _ _ _ _ _ _ us hl => match us, hl with | [_, _, _, _], _ => rfl) (fun vs H Q E h => by obtain ⟨_, _, _, _, rfl, _⟩ := h; rfl) (fun f cdv A outer s H vs Q E hr h => ?_)
  obtain ⟨_, _, _, _, rfl, l, n, b, t, st, rfl, hl, sq, hn, rfl, rfl, hs, rfl, hb1, hb2, sym, q⟩ := h
  refine ⟨_, (pss_cons (ps_set (i := 4) sc_two_walks.nd rfl (.inr rfl) (pc (ok_shortest_walks T) hr rfl (pa_cons (pv 0) (pa_cons (pv 1) pa_nil))))
    (pss_cons (ps_set (i := 5) sc_two_walks.nd rfl (.inl rfl) (pc (ok_shortest_walks T) hr rfl (pa_cons (pc (ok_turned_rows T) hr rfl (pa_cons (pv 0) pa_nil)) (pa_cons (pv 2) pa_nil))))
    (pss_cons (ps_lock (ps_setDc (i := 6) (own := [("place", 7)]) rfl sc_two_walks.nd rfl rfl (sw_trueD rfl rfl rfl (by decide +kernel)) (pi_keys (pv 4)) (blkOk_by (N := n_two_walks) (sc := defScope s_two_walks) (by decide +kernel)) (fun _ _ _ _ _ => (pg_name (i := 7) sc_two_walks.nd rfl (.inl rfl))) (fun _ _ _ _ _ => pts_nil) (fun _ _ _ _ _ => (pv 7)) (fun _ _ _ _ _ => (pc (ok_weight_of T) hr rfl (pa_cons (pv 0) (pa_cons (pe_dget (hu_of hr) (pv 4) (pv 7) (fun _ _ => rfl)) (pa_cons (pv 3) pa_nil)))))))
    (pss_cons (ps_lock (ps_for PassesOwn.never rfl (pi_keys (pv 4)) (pg_name (i := 7) sc_two_walks.nd rfl (.inl rfl))
      (pss_one (ps_for PassesOwn.never rfl (pi_enum rfl T.b_enumerate (pa_cons (pe_ix ix_list (pv 0) (pv 7) (fun _ _ => rfl)) pa_nil)) (by refine pg2 (i := 8) (j := 9) K rfl sc_two_walks.nd ?_ ?_ ?_ ?_ ?_ ?_ ?_ <;> first | rfl | exact .inl rfl | exact .inr rfl)
        (pss_one (ps_if (PW.pt (pw_and (pt_cmp (pc_notN (pv 9))) (pw_and (pt_cmp (pc_din (hu_of hr) (pv 8) (pv 5))) (pw_and1 (pt_cmpR (op_neD hr.units) (pe_dget (hu_of hr) (pv 6) (pv 8) (fun _ _ => rfl)) (pc (ok_unit_plus T) hr rfl (pa_cons (pe_dget (hu_of hr) (pv 6) (pv 7) (fun _ _ => rfl)) (pa_cons (pv 9) pa_nil))) (nomark _))))))
          (pss_cons (ps_set (i := 10) sc_two_walks.nd rfl (.inl rfl) (pe_slice sl_tupA (pe_revT (pe_dget (hu_of hr) (pv 5) (pv 8) (fun _ _ => rfl))) (po_some pe_int) po_none))
          (pss_one (ps_ret (pe_tup (pa_cons (pe_op op_catA (pe_op op_catA (pe_dget (hu_of hr) (pv 4) (pv 7) (fun _ _ => rfl)) (pe_tup (pa_cons (pv 8) pa_nil))) (pv 10)) (pa_cons (pe_op op_catA (pe_dget (hu_of hr) (pv 4) (pv 8) (fun _ _ => rfl)) (pv 10)) pa_nil))))))
          pss_nil))))))
    (pss_one (ps_ret pe_non)))))), ?_⟩
  dsimp only [tVar, tC, tAdd, tSub, tMul, t2I, tCmp, tIsN, tNotN, tB, tAnd, tOr, tNot, tAndV, tOrV, tNotV, tIf, tSeq, tNext, tDrop, tRet, tRetN, tIfS, tAsg, tAug, tPar, gName, gNil, gCons, gSub, tOp, tUn, tTest, tChain, tCons, tNil, tTup, tLst, tCall, tCB, tMake, tFld, sFld, tNoPart, tPart, tSl, tBM, tBM0, rI0, rI, tYes, Cx.nox, Cx.blk, cxOf, List.nil_append, List.cons_append, tDGet, tDIn, tLock]
  refine ⟨_, rfl, _, rfl, _, _, rfl, l, n, b, t, st, rfl, hl, sq, hn, rfl, hs, fun H1 da W s1 nda hDa sw => ?_⟩
  refine ⟨_, rfl, _, rfl, l, n, b, t, rfl, hl.same s1, sq, hn, fun H2 tl s2 htl => ⟨_, rfl, ?_⟩⟩
  refine ⟨_, _, rfl, tl, n, b, turnG n t, st, rfl, htl, turn_sq sq, hn, rfl, hs, fun H3 db Wb s3 ndb hDb swb => ?_⟩
  obtain ⟨ka, hka, hDA⟩ := hDa.same (s2.trans s3)
  obtain ⟨kb, hkb, hDB⟩ := hDb
  have sA := (s1.trans s2).trans s3
  have hWl := sw.toSW0.len
  have hWbl := swb.toSW0.len
  have hkl := hDA.length
  have n3 : H da = none := nda
  have neab : da ≠ db := fun z => by
    obtain ⟨_, e, _⟩ := hDa
    have := s2 _ _ e
    rw [z, ndb] at this
    cases this
  -- the weights, the walks' dict locked
  refine ⟨da, _, hka, trivial, fun od => ?_⟩
  have sL : Same H (upd H3 da (.frz od (.dK ka))) := sA.out n3
  have hB : (upd H3 da (.frz od (.dK ka))) da = some (.frz od (.dK ka)) := upd_same
  have hDAL : DA K (upd H3 da (.frz od (.dK ka))) ka W := hDA.tk (Tk.dK hka)
  have hlL := hl.same sL
  refine dcF (B := upd H3 da (.frz od (.dK ka))) (feedK hB) (fun R r => ⟨_, rfl, da, od, rfl, .inl ⟨ka, hB, r⟩⟩)
    (fun L i acc H' => Same (upd H3 da (.frz od (.dK ka))) H' ∧ DP K H' acc ((W.take i).map fun q => (q.1, un (wt b t q.2))))
    (fun L hL => ⟨same_upd hL, trivial⟩) (fun _ _ _ _ h => h.1) (fun L i x acc H4 H5 hL hi hP ha hle s4 it => ?_) (fun L acc H4 hL hP ha hle => ?_)
  · obtain ⟨p, hp, rfl⟩ := it
    obtain ⟨k, wv, hkw, hkp⟩ := hDAL.at hp
    rw [hkp]
    have s5 := hP.1.trans s4
    have hmem := List.mem_of_getElem? hkw
    obtain ⟨a1, a2, ⟨r, a3⟩, a4, a5⟩ := sw.ok k wv hmem
    obtain ⟨vw, hg, hvw⟩ := IsDf.get (K := K) (H := H5) (d := da) ⟨ka, .inr ⟨od, s5 _ _ hB⟩, hDAL.tk (Tk.same s5)⟩ hmem sw.nd
    dsimp only [tVar, tC, tAdd, tSub, tMul, t2I, tCmp, tIsN, tNotN, tB, tAnd, tOr, tNot, tAndV, tOrV, tNotV, tIf, tSeq, tNext, tDrop, tRet, tRetN, tIfS, tAsg, tAug, tPar, gName, gNil, gCons, gSub, tOp, tUn, tTest, tChain, tCons, tNil, tTup, tLst, tCall, tCB, tMake, tFld, sFld, tNoPart, tPart, tSl, tBM, tBM0, rI0, rI, tYes, Cx.nox, Cx.blk, cxOf, List.nil_append, List.cons_append, tDGet]
    refine ⟨rfl, ifT rfl ⟨_, rfl, _, rfl, _, rfl, _, rfl, da, vw, rfl, hg, _, rfl, _, _, _, rfl, l, n, b, t, wv, rfl, hlL.same s5, sq, hvw, rfl, hb1, hb2, by rw [a3]; simp, a2, fun H6 z s6 hz => ?_⟩⟩
    have ha6 := s6 _ _ (s4 _ _ ha)
    refine ⟨acc, .inl ((k : Nat) : Int), rfl, ha6, lt_line (by omega), acc ++ [(.inl ((k : Nat) : Int), z)], ?_, by rw [List.length_append]; simp; exact hle, (s5.trans s6).out hL, ?_⟩
    · rw [upd_same, putK_new]
      refine DP.none hP.2 fun hm => ?_
      rw [List.map_map] at hm
      obtain ⟨⟨k', w'⟩, hm1, hm2⟩ := List.mem_map.mp hm
      have hm2 : k' = k := hm2
      subst hm2
      obtain ⟨i', hi', e'⟩ := List.mem_iff_getElem.mp hm1
      have hjl := (List.getElem?_eq_some_iff.mp hkw)
      rw [List.getElem_take] at e'
      rw [List.length_take] at hi'
      have ei : (W.map (·.1))[i']'(by simp; omega) = (W.map (·.1))[i]'(by simp; exact hjl.1) := by simp [e', hjl.2]
      have := (List.getElem_inj sw.nd).mp ei
      omega
    · rw [take_succ hkw, List.map_append]
      exact (DP.snoc hz ((hP.2.tk (Tk.same s4)).tk (Tk.same s6))).tk (Tk.dK ha6)
  · rw [hkl, List.take_length] at hP
    obtain ⟨s4, hDP⟩ := hP
    have hd4 := s4 _ _ hB
    refine ⟨hd4, ?_⟩
    -- unlocked
    have s5 : Same H3 (upd H4 da (.dK ka)) := fun p u e => by
      by_cases hp : p = da
      · subst hp
        rw [hka] at e
        cases e
        exact upd_same
      · rw [upd_ne hp]
        exact s4 _ _ (by rw [upd_ne hp]; exact e)
    have neL : L ≠ da := fun z => by rw [z, upd_same] at hL; cases hL
    have hW5 : (upd H4 da (.dK ka)) L = some (.dK acc) := by rw [upd_ne neL]; exact ha
    have tk5 : Tk H4 (upd H4 da (.dK ka)) := fun p xs r => by
      have ne : p ≠ da := fun z => by
        subst z
        rcases r with r | ⟨ob, r⟩
        · rw [hd4] at r; cases r
        · rw [hd4] at r; cases r
      rcases r with r | ⟨ob, r⟩
      · exact .inl (by rw [upd_ne ne]; exact r)
      · exact .inr ⟨ob, by rw [upd_ne ne]; exact r⟩
    have hDP5 := hDP.tk tk5
    have nd5 : ((W.map fun q => (q.1, un (wt b t q.2))).map (·.1)).Nodup := by rw [List.map_map]; exact sw.nd
    generalize upd H4 da (.dK ka) = H5 at s5 hW5 hDP5
    refine ⟨da, _, s5 _ _ hka, trivial, fun od2 => ?_⟩
    have hDA5 := (hDA.tk (Tk.same s5)).tk (Tk.dK (o := .frz od2 (.dK ka)) (s5 _ _ hka))
    have hDB5 := (hDB.tk (Tk.same s5)).tk (Tk.dK (o := .frz od2 (.dK ka)) (s5 _ _ hka))
    have hDP6 := hDP5.tk (Tk.dK (o := .frz od2 (.dK ka)) (s5 _ _ hka))
    have hB2 : (upd H5 da (.frz od2 (.dK ka))) da = some (.frz od2 (.dK ka)) := upd_same
    have hkb2 : (upd H5 da (.frz od2 (.dK ka))) db = some (.dK kb) := by rw [upd_ne (Ne.symm neab)]; exact s5 _ _ hkb
    have hW6 : (upd H5 da (.frz od2 (.dK ka))) L = some (.dK acc) := by rw [upd_ne neL]; exact hW5
    have sB2 : Same H (upd H5 da (.frz od2 (.dK ka))) := (sA.trans s5).out n3
    have h5a := s5 _ _ hka
    generalize hB2' : upd H5 da (.frz od2 (.dK ka)) = B2 at hDA5 hDB5 hDP6 hB2 hkb2 hW6 sB2
    have keyR : ∀ {x : Nat}, x ∈ W.map (·.1) → x ∈ Wb.map (·.1) := fun {x} hx => swb.rc.mpr (by
      have h1 := sw.rc.mp hx
      have h2 := rc_rev' (sym_rc sym h1)
      clear h1 hx
      induction h2 with
      | refl => exact .refl
      | step _ e ih => exact .step ih ((turn_ed sq).mpr e))
    refine forF (B := B2) (feedK hB2) (fun R r => ⟨_, rfl, da, od2, rfl, .inl ⟨ka, hB2, r⟩⟩)
      (fun i σ H' => (∃ y7 y8 y9 y10, σ = [some (.ref l), some (.int (st : Nat)), some (.int (st : Nat)), some (.int (b : Nat)), some (.ref da), some (.ref db), some (.ref L), y7, y8, y9, y10]) ∧ Same B2 H' ∧ ∀ x y wx wy v, (x, wx) ∈ W.take i → Ed n t x y → (y, wy) ∈ W → ce t x y = some v → wt b t wy = ua (wt b t wx) v)
      ⟨⟨_, _, _, _, rfl⟩, Same.refl _, fun x y wx wy v h => (nomatch h)⟩ (fun _ _ _ h => h.2.1) (fun i x σ H6 H7 hi hP s6 it => ?_) (fun σ H6 hP => ?_)
    · obtain ⟨⟨y7, y8, y9, y10, rfl⟩, s7, hok⟩ := hP
      obtain ⟨p, hp, rfl⟩ := it
      obtain ⟨k, wk, hkw, hkp⟩ := hDA5.at hp
      rw [hkp]
      have hmem := List.mem_of_getElem? hkw
      obtain ⟨a1, a2, a3, a4, a5⟩ := sw.ok k wk hmem
      have s8 := s7.trans s6
      obtain ⟨r, hr1, hr2, hr3⟩ := tcs_row sq a1
      obtain ⟨a, ⟨ys, hys, hya⟩, zs, hz, hza⟩ := (hl.same sB2).at hr1
      have hyl : ys.length = n := by rw [hya.length, List.length_map, hr2]
      dsimp only [tVar, tC, tAdd, tSub, tMul, t2I, tCmp, tIsN, tNotN, tB, tAnd, tOr, tNot, tAndV, tOrV, tNotV, tIf, tSeq, tNext, tDrop, tRet, tRetN, tIfS, tAsg, tAug, tPar, gName, gNil, gCons, gSub, tOp, tUn, tTest, tChain, tCons, tNil, tTup, tLst, tCall, tCB, tMake, tFld, sFld, tNoPart, tPart, tSl, tBM, tBM0, rI0, rI, tYes, Cx.nox, Cx.blk, cxOf, List.nil_append, List.cons_append, tDGet, tDIn]
      refine forF (B := B2) (feedE (SqL.of hys)) (fun R r => ⟨_, rfl, _, rfl, l, zs, _, _, rfl, rfl, SqL.of (s8 _ _ hz), atI_nat hza, a, ys, rfl, SqL.of (s8 _ _ hys), r⟩)
        (fun j σ H' => (∃ y8 y9 y10, σ = [some (.ref l), some (.int (st : Nat)), some (.int (st : Nat)), some (.int (b : Nat)), some (.ref da), some (.ref db), some (.ref L), some (.int (k : Nat)), y8, y9, y10]) ∧ Same B2 H' ∧ ∀ x y wx wy v, (x, wx) ∈ W.take (i + 1) → (x, wx) ∈ W.take i ∨ y < j → Ed n t x y → (y, wy) ∈ W → ce t x y = some v → wt b t wy = ua (wt b t wx) v)
        ⟨⟨_, _, _, rfl⟩, s8, fun x y wx wy v _ h => hok x y wx wy v (h.elim id fun z => absurd z (Nat.not_lt_zero _))⟩ (fun _ _ _ h => h.2.1) (fun j x σ H8 H9 hj hP s9 it => ?_) (fun σ H8 hP => ?_)
      · obtain ⟨⟨y8, y9, y10, rfl⟩, s10, hok⟩ := hP
        obtain ⟨T2, v2, rfl, e3, e4⟩ := it
        have hj : j < n := by omega
        obtain ⟨dd, hdd, hv⟩ := hya.get' e3
        rw [List.getElem?_map, hr3 j hj] at hdd
        cases hdd
        have s11 := s10.trans s9
        have hv := hv.same s11
        have step : (∀ wy v, Ed n t k j → (j, wy) ∈ W → ce t k j = some v → wt b t wy = ua (wt b t wk) v) → ∀ x y wx wy v, (x, wx) ∈ W.take (i + 1) → (x, wx) ∈ W.take i ∨ y < j + 1 → Ed n t x y → (y, wy) ∈ W → ce t x y = some v → wt b t wy = ua (wt b t wx) v := fun hh x y wx wy v h1 h2 e h3 h4 => by
          by_cases h5 : (x, wx) ∈ W.take i
          · exact hok x y wx wy v h1 (.inl h5) e h3 h4
          · rw [take_succ hkw, List.mem_append, List.mem_singleton] at h1
            have e1 := h1.elim (fun z => absurd z h5) id
            cases e1
            by_cases ey : y = j
            · subst ey
              exact hh wy v e h3 h4
            · exact hok k y wk wy v (by rw [take_succ hkw]; simp) (.inr (by have := h2.elim (fun z => absurd z h5) id; omega)) e h3 h4
        refine gPair e4 ?_
        dsimp only [tVar, tC, tAdd, tSub, tMul, t2I, tCmp, tIsN, tNotN, tB, tAnd, tOr, tNot, tAndV, tOrV, tNotV, tIf, tSeq, tNext, tDrop, tRet, tRetN, tIfS, tAsg, tAug, tPar, gName, gNil, gCons, gSub, tOp, tUn, tTest, tChain, tCons, tNil, tTup, tLst, tCall, tCB, tMake, tFld, sFld, tNoPart, tPart, tSl, tBM, tBM0, rI0, rI, tYes, Cx.nox, Cx.blk, cxOf, List.nil_append, List.cons_append, tDGet, tDIn]
        refine ⟨_, rfl, _, rfl, ?_⟩
        cases hc : ce t k j with
        | none =>
          rw [hc] at hv
          refine ifF (by rw [hv.non_eq]; rfl) (ifF rfl ⟨⟨_, _, _, rfl⟩, s11, step fun wy v _ _ f => by rw [hc] at f; cases f⟩)
        | some tv =>
          rw [hc] at hv
          have hvT : Is K H9 v2 (un tv) := hv
          clear hv
          have edge : Ed n t k j := ⟨a1, hj, tv, hc⟩
          have hjk := sw.cl k (List.mem_map.mpr ⟨_, hmem, rfl⟩) j edge
          obtain ⟨⟨j', wj⟩, hwj, hj'⟩ := List.mem_map.mp hjk
          have hj' : j' = j := hj'
          subst hj'
          obtain ⟨⟨j2, wb⟩, hwb, hj2⟩ := List.mem_map.mp (keyR hjk)
          have hj2 : j2 = j' := hj2
          subst hj2
          obtain ⟨b1, b2, b3, b4, b5⟩ := sw.ok j2 wj hwj
          obtain ⟨c1, c2, c3, c4, c5⟩ := swb.ok j2 wb hwb
          refine ifT (by rw [decide_eq_false hvT.notNon]; rfl) ?_
          have hIB : IsD K H9 db Wb := ⟨kb, s11 _ _ hkb2, hDB5.tk (Tk.same s11)⟩
          obtain ⟨ob, hob, hobs⟩ := hIB.has j2
          refine ⟨_, rfl, _, rfl, db, ob, rfl, hob, _, rfl, ifT (by rw [hobs]; exact decide_eq_true (keyR hjk)) ?_⟩
          have hDP9 := hDP6.tk (Tk.same s11)
          obtain ⟨vj, hvj1, hvj2⟩ := hDP9.get (k := j2) (d := un (wt b t wj)) (List.mem_map.mpr ⟨_, hwj, rfl⟩) nd5
          obtain ⟨vk, hvk1, hvk2⟩ := hDP9.get (k := k) (d := un (wt b t wk)) (List.mem_map.mpr ⟨_, hmem, rfl⟩) nd5
          refine ⟨_, rfl, _, rfl, L, vj, rfl, .inl ⟨acc, .inl ((j2 : Nat) : Int), .inl (s11 _ _ hW6), rfl, hvj1.symm⟩, ?_⟩
          refine ⟨_, rfl, _, rfl, L, vk, rfl, .inl ⟨acc, .inl ((k : Nat) : Int), .inl (s11 _ _ hW6), rfl, hvk1.symm⟩, ?_⟩
          refine ⟨_, rfl, _, _, rfl, wt b t wk, tv, hvk2, hvT, by rw [wt_len]; omega, fun H10 z s12 hz => ?_⟩
          refine r_ne (hvj2.same s12) hz (sh_un (by rw [wt_len]; omega)) (sh_un (by rw [ua_len (wt_len _ _ _) (sq.ok _ _ _ hc)]; omega)) ⟨_, rfl, ?_⟩
          rw [un_eqv]
          by_cases he : wt b t wj = ua (wt b t wk) tv
          · refine ifF (by rw [decide_eq_true he]; rfl) ⟨⟨_, _, _, rfl⟩, s11.trans s12, step fun wy v _ h1 h2 => ?_⟩
            rw [hc] at h2
            cases h2
            have : wy = wj := by
              obtain ⟨i1, hi1, q1⟩ := List.mem_iff_getElem.mp h1
              obtain ⟨i2, hi2, q2⟩ := List.mem_iff_getElem.mp hwj
              have ei : (W.map (·.1))[i1]'(by simpa using hi1) = (W.map (·.1))[i2]'(by simpa using hi2) := by simp [q1, q2]
              have := (List.getElem_inj sw.nd).mp ei
              subst this
              rw [q1] at q2
              cases q2
              rfl
            rw [this]
            exact he
          · refine ifT (by rw [decide_eq_false he]; rfl) ?_
            have s13 := s11.trans s12
            have hIB := hIB.same s12
            have hIA : IsDf K H10 da W := ⟨ka, .inr ⟨od2, s13 _ _ hB2⟩, hDA5.tk (Tk.same s13)⟩
            obtain ⟨hrev, hunl⟩ := unl_of sq a2 a3 a4 b2 b3 b4 c2 c3 c4 edge hc he (by omega) (by omega) (by omega)
            obtain ⟨vb, hg, hvb⟩ := hIB.get hwb swb.nd
            obtain ⟨ab, xb, rfl, hxb, hxa⟩ := hvb.tup_ex
            refine ⟨_, rfl, _, rfl, db, _, rfl, hg, ab, xb, rfl, hxb, by rw [hxa.nats_eq]; obtain ⟨r, hr⟩ := c3; rw [hr]; simp, fun p1 np1 => ⟨_, rfl, ?_⟩⟩
            refine r_sl (Is.mk np1 hxa.reverse) fun H11 v1 s14 hv1 => ?_
            rw [cut1T (by rw [List.length_reverse, List.length_map]; obtain ⟨r, hr⟩ := c3; rw [hr]; simp), ← List.map_reverse, ← List.map_drop] at hv1
            generalize wb.reverse.drop 1 = rest at hv1 hunl
            have s15 : Same H10 H11 := (same_upd np1).trans s14
            obtain ⟨va, hga, hva⟩ := IsDf.get (K := K) (H := H11) (d := da) ⟨ka, .inr ⟨od2, (s13.trans s15) _ _ hB2⟩, hDA5.tk (Tk.same (s13.trans s15))⟩ hmem sw.nd
            refine ⟨_, rfl, _, rfl, da, va, rfl, hga, _, rfl, one_le, fun p2 np2 => ?_⟩
            have z1 := hunl.z1
            have z2 := hunl.z2
            rw [List.length_append, List.length_append] at z1
            rw [List.length_append] at z2
            refine r_cat (hva.same (same_upd np2)) (Is.mk np2 (IsA.one (.int _))) (le_line (by simp; omega)) fun H12 v3 s16 hv3 => ⟨_, rfl, ?_⟩
            have s17 : Same H11 H12 := (same_upd np2).trans s16
            refine r_cat hv3 (hv1.same s17) (le_line (by simp at z1 ⊢; omega)) fun H13 v4 s18 hv4 => ?_
            have s19 := s17.trans s18
            obtain ⟨vj', hgj, hvj'⟩ := IsDf.get (K := K) (H := H13) (d := da) ⟨ka, .inr ⟨od2, ((s13.trans s15).trans s19) _ _ hB2⟩, hDA5.tk (Tk.same ((s13.trans s15).trans s19))⟩ hwj sw.nd
            refine ⟨_, rfl, _, rfl, da, vj', rfl, hgj, _, rfl, ?_⟩
            refine r_cat hvj' (hv1.same s19) (le_line (by simp; omega)) fun H14 v5 s20 hv5 => ⟨two_le, fun p3 np3 => ?_⟩
            have sE : Same B2 (upd H14 p3 (.tup [v4, v5])) := ((((s13.trans s15).trans s19).trans s20)).new np3
            refine ⟨sE _ _ hB2, q _ _ ((sA.trans s5).trans (same_unlock (od := od2) h5a (by rw [hB2']; exact sE))) (.inr ⟨_, _, ?_, hunl⟩)⟩
            have hfin := (Is.mk np3 (.cons (hv4.same s20) (.cons hv5 .nil))).tk (Tk.frzD (o := .dK ka) (sE _ _ hB2))
            have e1 : tn (wk ++ [j2] ++ rest) = .tuple (wk.map nat ++ [.int (j2 : Nat)] ++ rest.map nat) := by
              unfold tn
              rw [List.map_append, List.map_append]
              rfl
            have e2 : tn (wj ++ rest) = .tuple (wj.map nat ++ rest.map nat) := by
              unfold tn
              rw [List.map_append]
            rw [e1, e2]
            exact hfin
      · obtain ⟨⟨y8, y9, y10, rfl⟩, s10, hok⟩ := hP
        exact ⟨⟨_, _, _, _, rfl⟩, s10, fun x y wx wy v h1 e => hok x y wx wy v h1 (.inr (by rw [hyl]; exact e.2.1)) e⟩
    · obtain ⟨⟨y7, y8, y9, y10, rfl⟩, s7, hok⟩ := hP
      rw [hkl, List.take_length] at hok
      refine ⟨s7 _ _ hB2, q _ _ ((sA.trans s5).trans (same_unlock (od := od2) h5a (by rw [hB2']; exact s7))) (.inl ⟨rfl, fun k hk => ⟨fun x => (wt b t ((W.lookup x).getD [])).getD k 0, fun x y hr e => ?_⟩⟩)⟩
      have hx := sw.rc.mpr hr
      have hy := sw.cl x hx y e
      obtain ⟨⟨x', wx⟩, hwx, hx'⟩ := List.mem_map.mp hx
      have hx' : x' = x := hx'
      subst hx'
      obtain ⟨⟨y', wy⟩, hwy, hy'⟩ := List.mem_map.mp hy
      have hy' : y' = y := hy'
      subst hy'
      obtain ⟨_, _, v, hc⟩ := id e
      have := hok x' y' wx wy v hwx e hwy hc
      show (wt b t ((W.lookup y').getD [])).getD k 0 = (wt b t ((W.lookup x').getD [])).getD k 0 + ex t k x' y'
      rw [lookup_of hwx sw.nd, lookup_of hwy sw.nd]
      simp only [Option.getD_some]
      rw [this, ex_vec sq hc]
      unfold wt
      rw [ua_vec, vec_at _ hk, vec_at _ hk]
end
end UG
end
section
/-! Unitgrids, heights.py: a ring that weighs. -/
namespace UG
open PySem PySem.Spec PyProof.Rows L2 RZ UM
/-- the ring weighs -/
def hv (b : Nat) (t : Gd) (r : List Nat) : Bool := decide (vec b (fun k => rw_ (ex t k) r) ≠ u0 b)
theorem hv_iff {b : Nat} {t : Gd} {r : List Nat} : hv b t r = true ↔ ∃ k, k < b ∧ rw_ (ex t k) r ≠ 0 := by
  unfold hv
  rw [decide_eq_true_eq, u0_vec]
  constructor
  · intro h
    apply Classical.byContradiction
    intro hh
    exact h (vec_congr fun k hk => Classical.byContradiction fun z => hh ⟨k, hk, z⟩)
  · rintro ⟨k, hk, h⟩ e
    exact h (vec_iff.mp e k hk)
theorem ring_len {n : Nat} {t : Gd} {r : List Nat} (h : Rg (Ed n t) r) : r.length ≤ n := by
  have := nodup_len r (List.range n) h.nd fun x hx => List.mem_range.mpr (ring_edge h hx).1
  simpa using this
theorem rg_mono {E F : Nat → Nat → Prop} (h : ∀ a b, E a b → F a b) {r : List Nat} (k : Rg E r) : Rg F r := ⟨k.ne, k.nd, ch_mono h k.ch⟩
theorem ws_congr {E : Nat → Nat → Prop} {f g : Nat → Nat → Int} (h : ∀ a b, E a b → f a b = g a b) : ∀ {l : List Nat}, Ch E l → ws f l = ws g l
  | [], _ => rfl
  | [_], _ => rfl
  | a :: b :: l, c => by
    show f a b + ws f (b :: l) = g a b + ws g (b :: l)
    rw [h a b c.1, ws_congr h c.2]
/-- one of the rings of two walks that weigh unlike weighs -/
theorem unl_heavy {n b s : Nat} {t : Gd} {w1 w2 : List Nat} (h : Unl n b (mk n (inC n t)) s w1 w2) :
    (∀ r ∈ ringsIn w1 ++ ringsIn w2, Rg (Ed n t) r) ∧ ∃ r ∈ ringsIn w1 ++ ringsIn w2, hv b t r = true := by
  obtain ⟨r1, e1⟩ := h.h1
  obtain ⟨r2, e2⟩ := h.h2
  have c1 := h.c1
  have c2 := h.c2
  have l1 := h.l1
  have l2 := h.l2
  obtain ⟨k, hk, hne⟩ := h.un
  subst e1 e2
  obtain ⟨a1, a2⟩ := rings_of (ex (mk n (inC n t)) k) c1 l1
  obtain ⟨b1, b2⟩ := rings_of (ex (mk n (inC n t)) k) c2 l2
  have all : ∀ r ∈ ringsIn (s :: r1) ++ ringsIn (s :: r2), Rg (Ed n (mk n (inC n t))) r := fun r hr => (List.mem_append.mp hr).elim (a1 r) (b1 r)
  have down : ∀ x y, Ed n (mk n (inC n t)) x y → Ed n t x y := fun x y e => (in_ed.mp e).1
  refine ⟨fun r hr => rg_mono down (all r hr), ?_⟩
  apply Classical.byContradiction
  intro hh
  have zero : ∀ r ∈ ringsIn (s :: r1) ++ ringsIn (s :: r2), rw_ (ex (mk n (inC n t)) k) r = 0 := fun r hr => by
    apply Classical.byContradiction
    intro z
    refine hh ⟨r, hr, hv_iff.mpr ⟨k, hk, fun y => z ?_⟩⟩
    rw [← y]
    exact ws_congr (fun a b e => in_ex e) (all r hr).ch
  apply hne
  rw [← a2, ← b2, sumR_zero fun r hr => zero r (List.mem_append_left _ hr), sumR_zero fun r hr => zero r (List.mem_append_right _ hr)]
section
variable {P : Program} {w : World} {K : PySem.W.Frag} {mg : Str → Option Value} {base : Heap}
def sp_heavy_ring (K : PySem.W.Frag) : Sp := fun vs H Q _ => ∃ x y, vs = [x, y] ∧ ∃ (l : Addr) (n b : Nat) (t : Gd), x = .ref l ∧ IsLL K H l (tcs t) ∧ Sq n b t ∧ n ≤ 10 ∧ y = .int (b : Nat) ∧ 1 ≤ b ∧ b ≤ 2 ∧
  ∀ H' v, Same H H' → ((v = .non ∧ ∀ s, s < n → PotV n b (mk n (inC n t)) s) ∨ ∃ r, Is K H' v (tn r) ∧ Rg (Ed n t) r ∧ ∃ k, k < b ∧ rw_ (ex t k) r ≠ 0) → Q v H'
abbrev n_heavy_ring : List Str := ["ties", "bases", "inner", "start", "pair", "rings", "heavy", "ring"]
theorem sc_heavy_ring : FnScope n_heavy_ring ["ties", "bases"] (defScope s_heavy_ring) := ⟨rfl, rfl, rfl, by decide +kernel, rfl, by decide +kernel, by decide +kernel⟩
theorem ok_heavy_ring (T : Txt K mg) : Ok P w K mg base "heavy_ring" ["ties", "bases"] 7 (sp_heavy_ring K) := by
  refine T.x_heavy_ring.ok sc_heavy_ring (fun _ _ _ _ _ _ us hl => match us, hl with | [_, _], _ => rfl) (fun vs H Q E h => by obtain ⟨_, _, rfl, _⟩ := h; rfl) (fun f cdv A outer s H vs Q E hr h => ?_)
  obtain ⟨_, _, rfl, l, n, b, t, rfl, hl, sq, hn, rfl, hb1, hb2, q⟩ := h
  refine ⟨_, (pss_cons (ps_set (i := 2) sc_heavy_ring.nd rfl (.inl rfl) (pc (ok_ring_ties T) hr rfl (pa_cons (pv 0) pa_nil)))
    (pss_cons (ps_for PassesOwn.never rfl (pi_range1 rfl T.b_range (pa_cons (pe_callB call_lenO (by rfl) T.b_len bt_len (pa_cons (pv 0) pa_nil)) pa_nil)) (pg_name (i := 3) sc_heavy_ring.nd rfl (.inl rfl))
      (pss_cons (ps_set (i := 4) sc_heavy_ring.nd rfl (.inl rfl) (pc (ok_two_walks T) hr rfl (pa_cons (pv 2) (pa_cons (pv 3) (pa_cons (pv 3) (pa_cons (pv 1) pa_nil))))))
      (pss_one (ps_if (pt_cmp (pc_notN (pv 4)))
        (pss_cons (ps_set (i := 5) sc_heavy_ring.nd rfl (.inl rfl) (pe_op op_cat (pc (ok_rings_in T) hr rfl (pa_cons (pe_ix ix_tup (pv 4) pe_int (fun _ _ => rfl)) pa_nil)) (pc (ok_rings_in T) hr rfl (pa_cons (pe_ix ix_tup (pv 4) pe_int (fun _ _ => rfl)) pa_nil))))
        (pss_cons (ps_setLc (i := 6) (own := [("ring", 7)]) rfl sc_heavy_ring.nd rfl rfl (sw_true rfl rfl rfl (by decide +kernel)) (pi_list (pv 5)) (blkOk_by (N := n_heavy_ring) (sc := (defScope s_heavy_ring)) (by decide +kernel)) (fun _ _ _ _ _ => (pg_name (i := 7) sc_heavy_ring.nd rfl (.inl rfl))) (fun _ _ _ _ _ => (pts_one (pt_cmpR (op_neDK K (by rfl) hr.units) (pc (ok_ring_weight T) hr rfl (pa_cons (pv 0) (pa_cons (pv 7) (pa_cons (pv 1) pa_nil)))) (pc (ok_unitless T) hr rfl (pa_cons (pv 1) pa_nil)) (nomark _)))) (fun _ _ _ _ _ => (pv 7)))
        (pss_one (ps_ret (pc (ok_least_first T) hr rfl (pa_cons (pe_ix ix_list (pv 6) pe_int (fun _ _ => rfl)) pa_nil))))))
        pss_nil))))
    (pss_one (ps_ret pe_non)))), ?_⟩
  dsimp only [tVar, tC, tAdd, tSub, tMul, t2I, tCmp, tIsN, tNotN, tB, tAnd, tOr, tNot, tAndV, tOrV, tNotV, tIf, tSeq, tNext, tDrop, tRet, tRetN, tIfS, tAsg, tAug, tPar, gName, gNil, gCons, gSub, tOp, tUn, tTest, tChain, tCons, tNil, tTup, tLst, tCall, tCB, tMake, tFld, sFld, tNoPart, tPart, tSl, tBM, tBM0, rI0, rI, tYes, Cx.nox, Cx.blk, cxOf, List.nil_append, List.cons_append]
  refine ⟨_, rfl, _, rfl, l, n, b, t, rfl, hl, sq, hn, fun H1 il s1 hil => ?_⟩
  have sqi := in_ok (n := n) sq
  refine forF (B := H1) (feedR 0 n) (fun R r => ⟨_, rfl, _, _, rfl, by have := (hl.same s1).len; rwa [tcs_len sq] at this, _, rfl, by omega, by omega, r⟩)
    (fun i σ H' => (∃ y3 y4 y5 y6 y7, σ = [some (.ref l), some (.int (b : Nat)), some (.ref il), y3, y4, y5, y6, y7]) ∧ Same H1 H' ∧ ∀ s, s < i → PotV n b (mk n (inC n t)) s)
    ⟨⟨_, _, _, _, _, rfl⟩, Same.refl _, fun s hs => absurd hs (Nat.not_lt_zero _)⟩ (fun _ _ _ h => h.2.1) (fun i x σ H2 H3 hi hP s it => ?_) (fun σ H2 hP => ?_)
  · obtain ⟨⟨y3, y4, y5, y6, y7, rfl⟩, s2, hpot⟩ := hP
    subst it
    rw [Int.zero_add]
    have s3 := s2.trans s
    dsimp only [tVar, tC, tAdd, tSub, tMul, t2I, tCmp, tIsN, tNotN, tB, tAnd, tOr, tNot, tAndV, tOrV, tNotV, tIf, tSeq, tNext, tDrop, tRet, tRetN, tIfS, tAsg, tAug, tPar, gName, gNil, gCons, gSub, tOp, tUn, tTest, tChain, tCons, tNil, tTup, tLst, tCall, tCB, tMake, tFld, sFld, tNoPart, tPart, tSl, tBM, tBM0, rI0, rI, tYes, Cx.nox, Cx.blk, cxOf, List.nil_append, List.cons_append]
    refine ⟨_, rfl, _, rfl, _, rfl, _, rfl, _, _, _, _, rfl, il, n, b, mk n (inC n t), i, rfl, hil.same s3, sqi, hn, rfl, rfl, hi, rfl, hb1, hb2, fun x y e => in_sym sq e, fun H4 v s4 hv4 => ?_⟩
    rcases hv4 with ⟨rfl, hp⟩ | ⟨w1, w2, hw, hu⟩
    · refine ⟨_, rfl, _, rfl, ifF rfl ⟨⟨_, _, _, _, _, rfl⟩, s3.trans s4, fun s hs => ?_⟩⟩
      by_cases e : s = i
      · rw [e]; exact hp
      · exact hpot s (by omega)
    · refine ⟨_, rfl, _, rfl, ifT (by rw [decide_eq_false hw.notNon]; rfl) ?_⟩
      obtain ⟨hall, hheavy⟩ := unl_heavy hu
      have z1 := hu.z1
      have z2 := hu.z2
      refine ⟨_, rfl, r_ixT (j := 0) hw rfl rfl rfl fun v1 h1 => ⟨_, rfl, w1, h1, by omega, fun H5 la s5 hla => ?_⟩⟩
      refine ⟨_, rfl, r_ixT (j := 1) (hw.same s5) rfl rfl rfl fun v2 h2 => ⟨_, rfl, w2, h2, by omega, fun H6 lb s6 hlb => ?_⟩⟩
      obtain ⟨xa, hxa, ia⟩ := hla.same s6
      obtain ⟨xb, hxb, ib⟩ := hlb
      have f1 := (fold_len w1).1
      have f2 := (fold_len w2).1
      have g1 : (ringsIn w1).length ≤ 50 := Nat.le_trans f1 z1
      have g2 : (ringsIn w2).length ≤ 50 := Nat.le_trans f2 z2
      refine ⟨la, lb, xa, xb, rfl, rfl, hxa, hxb, le_line (by rw [ia.length, ib.length]; omega), fun lc nlc => ?_⟩
      have irs : IsRA (upd H6 lc (.lst (xa ++ xb))) (xa ++ xb) (ringsIn w1 ++ ringsIn w2) := (ia.append ib).mono fun _ _ h => h.same (same_upd nlc)
      have s7 : Same H1 (upd H6 lc (.lst (xa ++ xb))) := (((s3.trans s4).trans s5).trans s6).new nlc
      have hlc : upd H6 lc (.lst (xa ++ xb)) lc = some (.lst (xa ++ xb)) := upd_same
      have hlen : (xa ++ xb).length ≤ 100 := by rw [List.length_append, ia.length, ib.length]; omega
      generalize upd H6 lc (.lst (xa ++ xb)) = H7 at irs s7 hlc
      generalize xa ++ xb = xs at irs hlc hlen
      generalize ringsIn w1 ++ ringsIn w2 = rs at irs hall hheavy
      have hxr := irs.length
      refine lcF (B := H7) (feedL (SqL.of hlc)) (fun R r => ⟨_, rfl, lc, rfl, ⟨_, SqL.of hlc⟩, r⟩)
        (fun L i acc H' => Same H7 H' ∧ IsRA H' acc ((rs.take i).filter (hv b t)))
        (fun L hL => ⟨same_upd hL, trivial⟩) (fun _ _ _ _ h => h.1) (fun L j x acc H8 H9 hL hj hP ha hle s8 it => ?_) (fun L acc H8 hL hP ha _ => ?_)
      · obtain ⟨r, hr1, hr2⟩ := irs.get it
        have s9 := hP.1.trans s8
        have hrg := hall r (List.mem_of_getElem? hr1)
        have hx : IsR H9 x r := hr2.same s9
        dsimp only [tVar, tC, tAdd, tSub, tMul, t2I, tCmp, tIsN, tNotN, tB, tAnd, tOr, tNot, tAndV, tOrV, tNotV, tIf, tSeq, tNext, tDrop, tRet, tRetN, tIfS, tAsg, tAug, tPar, gName, gNil, gCons, gSub, tOp, tUn, tTest, tChain, tCons, tNil, tTup, tLst, tCall, tCB, tMake, tFld, sFld, tNoPart, tPart, tSl, tBM, tBM0, rI0, rI, tYes, Cx.nox, Cx.blk, cxOf, List.nil_append, List.cons_append]
        refine ⟨rfl, _, rfl, _, rfl, _, rfl, _, _, _, rfl, l, n, b, t, r, rfl, hl.same (s1.trans (s7.trans s9)), sq, hx.is, rfl, hb1, hb2, hrg, by have := ring_len hrg; omega, fun H10 v3 s10 hv3 => ?_⟩
        refine ⟨_, rfl, _, rfl, b, rfl, hb1, by omega, fun H11 v4 s11 hv4 => ?_⟩
        have s12 : Same H8 H11 := (s8.trans s10).trans s11
        refine r_ne (hv3.same s11) hv4 (sh_un (by rw [vec_len]; omega)) (sh_un (by unfold u0; rw [List.length_replicate]; omega)) ⟨_, rfl, ?_⟩
        have eh : (!PyData.eqv (un (vec b fun k => rw_ (ex t k) r)) (un (u0 b))) = hv b t r := by
          rw [un_eqv]
          unfold hv
          by_cases e : (vec b fun k => rw_ (ex t k) r) = u0 b
          · rw [decide_eq_true e, decide_eq_false (fun z => z e)]; rfl
          · rw [decide_eq_false e, decide_eq_true e]; rfl
        rw [eh]
        have iacc := hP.2.mono fun _ _ h => h.same s12
        have ha12 := s12 _ _ ha
        by_cases hh : hv b t r = true
        · refine ifT hh ⟨x, rfl, ?_⟩
          refine LcGot.mk ha12 hle (lt_line (by omega)) ⟨(hP.1.trans s12).out hL, ?_⟩
          rw [take_succ hr1, List.filter_append, show [r].filter (hv b t) = [r] by simp [hh]]
          exact (iacc.append (ys := [x]) (ts := [r]) ⟨hx.same (s10.trans s11), trivial⟩).mono fun _ _ h => h.at ha12
        · refine ifF (by simpa using hh) (LcNx.mk ha12 hle ⟨hP.1.trans s12, ?_⟩)
          rw [take_succ hr1, List.filter_append, show [r].filter (hv b t) = [] by simp [hh], List.append_nil]
          exact iacc
      · obtain ⟨s8, irs8⟩ := hP
        rw [hxr, List.take_length] at irs8
        have hne : rs.filter (hv b t) ≠ [] := by
          obtain ⟨r, hr, hr2⟩ := hheavy
          intro z
          have : r ∈ rs.filter (hv b t) := List.mem_filter.mpr ⟨hr, hr2⟩
          rw [z] at this
          cases this
        cases hf : rs.filter (hv b t) with
        | nil => exact absurd hf hne
        | cons r rest =>
          rw [hf] at irs8
          cases acc with
          | nil => exact absurd irs8 id
          | cons v vs =>
            have hm : r ∈ rs.filter (hv b t) := by rw [hf]; exact List.mem_cons_self
            obtain ⟨hm1, hm2⟩ := List.mem_filter.mp hm
            have hrg := hall r hm1
            refine ⟨_, rfl, L, _, 0, v, rfl, rfl, SqL.of ha, atI_nat (j := 0) rfl, _, rfl, r, irs8.1, hrg.ne, by have := ring_len hrg; omega, fun H9 v9 k s9 hk h9 => ?_⟩
            obtain ⟨k2, hk2, hne2⟩ := hv_iff.mp hm2
            obtain ⟨t1, t2⟩ := hrg.turn (ex t k2) k hk
            exact q H9 v9 ((s1.trans s7).trans (s8.trans s9)) (.inr ⟨_, h9, t1, k2, hk2, by rw [t2]; exact hne2⟩)
  · obtain ⟨⟨y3, y4, y5, y6, y7, rfl⟩, s2, hpot⟩ := hP
    exact q _ _ (s1.trans s2) (.inl ⟨rfl, hpot⟩)
end
end UG
end
section
/-! Unitgrids: all placings alike, potentials, rings. -/
namespace UG
open PySem PySem.Spec PyProof.Rows L2 RZ UM
/-- the ties of a placing that stand on rings -/
abbrev inn (n : Nat) (g : Gd) (p : List Nat) : Gd := mk n (inC n (mk n (tieC g p)))
def pf (p : List Nat) : Nat → Nat := fun i => p.getD i 0
theorem h_alike {n b k : Nat} {g : Gd} {p : List Nat} (sq : Sq n b g) (pl : Pl n g p) (hk : k < b) {h : Nat → Int} (hh : ∀ x y, Ed n (inn n g p) x y → h y = h x + ex (inn n g p) k x y) {q : Nat → Nat} (hq : IsP n (Ed n g) q) : W n (ex g k) q = W n (ex g k) (pf p) := by
  refine alike (R := fun a b => wsh (tb (mk n (tieC g p))) n a b = true) (h := h) pl.is (fun a b e => ?_) (fun a b c _ hb _ h1 h2 => wsh_trans n hb h1 h2) (fun a b e r => ?_) hq
  · obtain ⟨_, _, u, hu⟩ := (tie_iff sq pl).mpr e
    exact wsh_mono (by unfold tb; rw [hu]; rfl) n
  · have e1 := in_ed.mpr ⟨(tie_iff sq pl).mpr e, r⟩
    rw [hh a b e1, in_ex e1, tie_ex sq pl e hk]
open Classical in
/-- potentials everywhere: heights -/
theorem pot_heights {n b k : Nat} {t : Gd} (sym : ∀ x y, Ed n t x y → Rc (Ed n t) y x) (hp : ∀ s, s < n → PotV n b t s) (hk : k < b) : ∃ h : Nat → Int, ∀ x y, Ed n t x y → h y = h x + ex t k x y := by
  let rep : Nat → Nat := fun x => ((List.range n).find? fun s => decide (Rc (Ed n t) s x)).getD 0
  have rep_ok : ∀ x, x < n → rep x < n ∧ Rc (Ed n t) (rep x) x := fun x hx => by
    show ((List.range n).find? fun s => decide (Rc (Ed n t) s x)).getD 0 < n ∧ Rc (Ed n t) (((List.range n).find? fun s => decide (Rc (Ed n t) s x)).getD 0) x
    cases q : (List.range n).find? fun s => decide (Rc (Ed n t) s x) with
    | none =>
      have := List.find?_eq_none.mp q x (List.mem_range.mpr hx)
      simp [Rc.refl] at this
    | some s =>
      have h1 := List.find?_some q
      exact ⟨List.mem_range.mp (List.mem_of_find?_eq_some q), by simpa using h1⟩
  have rep_eq : ∀ x y, Ed n t x y → rep x = rep y := fun x y e => by
    show ((List.range n).find? fun s => decide (Rc (Ed n t) s x)).getD 0 = ((List.range n).find? fun s => decide (Rc (Ed n t) s y)).getD 0
    congr 2
    funext s
    have : Rc (Ed n t) s x ↔ Rc (Ed n t) s y := ⟨fun h => h.step e, fun h => h.trans (sym x y e)⟩
    simp only [this]
  have fs : ∀ s : Nat, ∃ f : Nat → Int, s < n → ∀ x y, Rc (Ed n t) s x → Ed n t x y → f y = f x + ex t k x y := fun s => by
    by_cases hs : s < n
    · obtain ⟨f, hf⟩ := hp s hs k hk
      exact ⟨f, fun _ => hf⟩
    · exact ⟨fun _ => 0, fun h => absurd h hs⟩
  refine ⟨fun x => (fs (rep x)).choose x, fun x y e => ?_⟩
  show (fs (rep y)).choose y = (fs (rep x)).choose x + _
  rw [← rep_eq x y e]
  obtain ⟨h1, h2⟩ := rep_ok x e.1
  exact (fs (rep x)).choose_spec h1 x y h2 e
theorem pot_alike {n b : Nat} {g : Gd} {p : List Nat} (sq : Sq n b g) (pl : Pl n g p) (hp : ∀ s, s < n → PotV n b (inn n g p) s) {k : Nat} (hk : k < b) {q : Nat → Nat} (hq : IsP n (Ed n g) q) : W n (ex g k) q = W n (ex g k) (pf p) := by
  obtain ⟨h, hh⟩ := pot_heights (fun x y e => in_sym (tie_ok sq pl) e) hp hk
  exact h_alike sq pl hk hh hq
theorem last_snoc (l : List Nat) (y : Nat) : (l ++ [y]).getLast? = some y := by simp
/-- walks from what leads to what -/
theorem walk_rc {E : Nat → Nat → Prop} {a b : Nat} (h : Rc E a b) : ∃ w, Ch E (a :: w) ∧ (a :: w).getLast? = some b := by
  induction h with
  | refl => exact ⟨[], trivial, rfl⟩
  | @step b c _ e ih =>
    obtain ⟨w, h1, h2⟩ := ih
    obtain ⟨u, hu⟩ := List.getLast?_eq_some_iff.mp h2
    refine ⟨w ++ [c], ?_, last_snoc (a :: w) c⟩
    rw [← List.cons_append, hu]
    rw [hu] at h1
    exact ch_snoc h1 e
open Classical in
/-- rings that weigh nothing: potentials -/
theorem zero_pot {n k : Nat} {t : Gd} (sym : ∀ x y, Ed n t x y → Rc (Ed n t) y x) (hz : ∀ r, Rg (Ed n t) r → rw_ (ex t k) r = 0) (s : Nat) : ∃ f : Nat → Int, ∀ x y, Rc (Ed n t) s x → Ed n t x y → f y = f x + ex t k x y := by
  have closed : ∀ w, Ch (Ed n t) (s :: w) → (s :: w).getLast? = some s → ws (ex t k) (s :: w) = 0 := fun w c l => by
    obtain ⟨h1, h2⟩ := rings_of (ex t k) c l
    rw [← h2]
    exact sumR_zero fun r hr => hz r (h1 r hr)
  -- two walks to one place weigh alike
  have two : ∀ x w1 w2, Ch (Ed n t) (s :: w1) → (s :: w1).getLast? = some x → Ch (Ed n t) (s :: w2) → (s :: w2).getLast? = some x → ws (ex t k) (s :: w1) = ws (ex t k) (s :: w2) := fun x w1 w2 c1 l1 c2 l2 => by
    obtain ⟨wb, cb, lb⟩ := walk_rc (sym_rc sym (rc_walk w1 s x c1 l1))
    have join : ∀ w, Ch (Ed n t) (s :: w) → (s :: w).getLast? = some x → ws (ex t k) (s :: w) + ws (ex t k) (x :: wb) = 0 := fun w c l => by
      obtain ⟨u, hu⟩ := List.getLast?_eq_some_iff.mp l
      have e : u ++ x :: wb = s :: (w ++ wb) := by
        have : s :: (w ++ wb) = (s :: w) ++ wb := rfl
        rw [this, hu]
        simp
      rw [hu] at c ⊢
      have cc := ch_app c cb
      rw [← ws_app (ex t k) x u wb, e]
      rw [e] at cc
      refine closed _ cc ?_
      rw [← e, List.getLast?_append, lb]
      rfl
    have := join w1 c1 l1
    have := join w2 c2 l2
    omega
  refine ⟨fun x => if h : Rc (Ed n t) s x then ws (ex t k) (s :: (walk_rc h).choose) else 0, fun x y hx e => ?_⟩
  have hy := hx.step e
  simp only [dif_pos hx, dif_pos hy]
  obtain ⟨c1, l1⟩ := (walk_rc hx).choose_spec
  obtain ⟨c2, l2⟩ := (walk_rc hy).choose_spec
  generalize (walk_rc hx).choose = w1 at c1 l1
  generalize (walk_rc hy).choose = w2 at c2 l2
  obtain ⟨u, hu⟩ := List.getLast?_eq_some_iff.mp l1
  have c3 : Ch (Ed n t) (s :: (w1 ++ [y])) := by
    rw [← List.cons_append, hu]
    rw [hu] at c1
    exact ch_snoc c1 e
  rw [two y w2 (w1 ++ [y]) c2 l2 c3 (last_snoc (s :: w1) y), ← List.cons_append, hu, ws_snoc]
/-- all placings alike: potentials everywhere -/
theorem alike_pot {n b : Nat} {g : Gd} {p : List Nat} (sq : Sq n b g) (pl : Pl n g p) (ha : ∀ k, k < b → ∀ q, IsP n (Ed n g) q → W n (ex g k) q = W n (ex g k) (pf p)) : ∀ s, s < n → PotV n b (inn n g p) s := fun s _ k hk => by
  refine zero_pot (fun x y e => in_sym (tie_ok sq pl) e) (fun r hr => ?_) s
  have hr1 : Rg (Tie n (Ed n g) (pf p)) r := rg_mono (fun a b e => (tie_iff sq pl).mp (in_ed.mp e).1) hr
  obtain ⟨h1, h2⟩ := turned pl.is hr1
  have h3 := ha k hk _ h1
  rw [h2] at h3
  have h4 : rw_ (ex (inn n g p) k) r = rw_ (tw (ex g k) (pf p)) r := ws_congr (fun a b e => by rw [in_ex e]; exact tie_ex sq pl ((tie_iff sq pl).mp (in_ed.mp e).1) hk) hr.ch
  rw [h4]
  unfold pf at h3 ⊢
  omega
/-- a ring that weighs: a placing that weighs unlike -/
theorem heavy_turn {n b k : Nat} {g : Gd} {p r : List Nat} (sq : Sq n b g) (pl : Pl n g p) (hk : k < b) (hr : Rg (Ed n (mk n (tieC g p))) r) (hne : rw_ (ex (mk n (tieC g p)) k) r ≠ 0) :
    IsP n (Ed n g) (turnP (pf p) r) ∧ W n (ex g k) (turnP (pf p) r) ≠ W n (ex g k) (pf p) := by
  have hr1 : Rg (Tie n (Ed n g) (pf p)) r := rg_mono (fun a b e => (tie_iff sq pl).mp e) hr
  obtain ⟨h1, h2⟩ := turned pl.is hr1
  have h4 : rw_ (ex (mk n (tieC g p)) k) r = rw_ (tw (ex g k) (pf p)) r := ws_congr (fun a b e => tie_ex sq pl ((tie_iff sq pl).mp e) hk) hr.ch
  refine ⟨h1, fun z => hne ?_⟩
  have := h2 (ex g k)
  rw [h4]
  unfold pf at z this ⊢
  omega
end UG
end
section
/-! Unitgrids, placings.py: a row takes a column. -/
namespace UG
open PySem PySem.Spec PyProof.Rows L2 RZ UM
/-- who holds which column, while some are tried; r is to be placed -/
structure KM (n : Nat) (g : Gd) (hs : Nat → Option Nat) (tr : Nat → Bool) (r : Nat) : Prop where
  ed : ∀ c i, c < n → hs c = some i → Ed n g i c
  inj : ∀ c c' i, c < n → c' < n → tr c = false → tr c' = false → hs c = some i → hs c' = some i → c = c'
  fr : ∀ c, c < n → tr c = false → hs c ≠ some r
/-- r has a column -/
structure PT (n : Nat) (g : Gd) (hs hs' : Nat → Option Nat) (tr : Nat → Bool) (r : Nat) : Prop where
  old : ∀ c, c < n → tr c = true → hs' c = hs c
  ed : ∀ c i, c < n → hs' c = some i → Ed n g i c
  inj : ∀ c c' i, c < n → c' < n → tr c = false → tr c' = false → hs' c = some i → hs' c' = some i → c = c'
  rows : ∀ i, (∃ c, c < n ∧ tr c = false ∧ hs' c = some i) ↔ i = r ∨ ∃ c, c < n ∧ tr c = false ∧ hs c = some i
/-- r starves: all that it and the holders it asked may take is tried -/
structure PF (n : Nat) (g : Gd) (hs : Nat → Option Nat) (tr tr' : Nat → Bool) (r : Nat) : Prop where
  mono : ∀ c, tr c = true → tr' c = true
  nb : ∀ c, Ed n g r c → tr' c = true
  cl : ∀ c, c < n → tr' c = true → tr c = false → ∃ h, hs c = some h ∧ ∀ c', Ed n g h c' → tr' c' = true
def put {α : Type} (f : Nat → α) (j : Nat) (x : α) : Nat → α := fun c => if c = j then x else f c
theorem put_same {α : Type} (f : Nat → α) (j : Nat) (x : α) : put f j x j = x := if_pos rfl
theorem put_ne {α : Type} (f : Nat → α) {j c : Nat} (x : α) (h : c ≠ j) : put f j x c = f c := if_neg h
/-- a free column -/
theorem PT.base {n r j : Nat} {g : Gd} {hs : Nat → Option Nat} {tr : Nat → Bool} (h : KM n g hs tr r) (hj : j < n) (e : Ed n g r j) (ht : tr j = false) (hf : hs j = none) : PT n g hs (put hs j (some r)) tr r where
  old c hc hc2 := put_ne _ _ fun z => by rw [z, ht] at hc2; cases hc2
  ed c i hc hi := by
    by_cases z : c = j
    · rw [z, put_same] at hi
      cases hi
      rw [z]
      exact e
    · rw [put_ne _ _ z] at hi
      exact h.ed c i hc hi
  inj c c' i hc hc' t t' hi hi' := by
    by_cases z : c = j <;> by_cases z' : c' = j
    · rw [z, z']
    · rw [z, put_same] at hi
      cases hi
      rw [put_ne _ _ z'] at hi'
      exact absurd hi' (h.fr c' hc' t')
    · rw [z', put_same] at hi'
      cases hi'
      rw [put_ne _ _ z] at hi
      exact absurd hi (h.fr c hc t)
    · rw [put_ne _ _ z] at hi
      rw [put_ne _ _ z'] at hi'
      exact h.inj c c' i hc hc' t t' hi hi'
  rows i := by
    constructor
    · rintro ⟨c, hc, t, hi⟩
      by_cases z : c = j
      · rw [z, put_same] at hi
        cases hi
        exact .inl rfl
      · rw [put_ne _ _ z] at hi
        exact .inr ⟨c, hc, t, hi⟩
    · rintro (rfl | ⟨c, hc, t, hi⟩)
      · exact ⟨j, hj, ht, put_same _ _ _⟩
      · have z : c ≠ j := fun z => by rw [z, hf] at hi; cases hi
        exact ⟨c, hc, t, by rw [put_ne _ _ z]; exact hi⟩
/-- a held column whose holder goes elsewhere -/
theorem PT.rec_ {n r j k : Nat} {g : Gd} {hs hs' : Nat → Option Nat} {tr tr2 : Nat → Bool} (h : KM n g hs tr r) (hj : j < n) (e : Ed n g r j) (ht : tr j = false) (hk : hs j = some k) (m2 : ∀ c, tr c = true → tr2 c = true) (hj2 : tr2 j = true) (p : PT n g hs hs' tr2 k) : PT n g hs (put hs' j (some r)) tr r where
  old c hc hc2 := by rw [put_ne _ _ fun z => by rw [z, ht] at hc2; cases hc2]; exact p.old c hc (m2 c hc2)
  ed c i hc hi := by
    by_cases z : c = j
    · rw [z, put_same] at hi
      cases hi
      rw [z]
      exact e
    · rw [put_ne _ _ z] at hi
      exact p.ed c i hc hi
  inj := by
    -- a row held elsewhere than at j, behind the change, was held at an untried column, ahead of it (or is k)
    have key : ∀ c i, c < n → c ≠ j → tr c = false → hs' c = some i → ∃ d, d < n ∧ tr d = false ∧ hs d = some i ∧ (tr2 c = true → d = c) ∧ (tr2 c = false → tr2 d = false ∨ d = j) := fun c i hc z t hi => by
      cases t2 : tr2 c with
      | true => exact ⟨c, hc, t, by rw [← p.old c hc t2]; exact hi, fun _ => rfl, fun z => by cases z⟩
      | false =>
        rcases (p.rows i).mp ⟨c, hc, t2, hi⟩ with rfl | ⟨d, hd, td, hd2⟩
        · exact ⟨j, hj, ht, hk, (fun z => by cases z), fun _ => .inr rfl⟩
        · exact ⟨d, hd, by cases q : tr d with
            | true => rw [m2 d q] at td; cases td
            | false => rfl, hd2, (fun z => by cases z), fun _ => .inl td⟩
    have nr : ∀ c i, c < n → c ≠ j → tr c = false → hs' c = some i → i ≠ r := fun c i hc z t hi e => by
      obtain ⟨d, hd, td, hd2, _⟩ := key c i hc z t hi
      rw [e] at hd2
      exact h.fr d hd td hd2
    intro c c' i hc hc' t t' hi hi'
    by_cases z : c = j <;> by_cases z' : c' = j
    · rw [z, z']
    · rw [z, put_same] at hi
      cases hi
      rw [put_ne _ _ z'] at hi'
      exact absurd rfl (nr c' _ hc' z' t' hi')
    · rw [z', put_same] at hi'
      cases hi'
      rw [put_ne _ _ z] at hi
      exact absurd rfl (nr c _ hc z t hi)
    · rw [put_ne _ _ z] at hi
      rw [put_ne _ _ z'] at hi'
      obtain ⟨d, hd, td, hd2, d3, d4⟩ := key c i hc z t hi
      obtain ⟨d', hd', td', hd2', d3', d4'⟩ := key c' i hc' z' t' hi'
      have edd := h.inj d d' i hd hd' td td' hd2 hd2'
      cases t2 : tr2 c with
      | true =>
        have e1 := d3 t2
        cases t2' : tr2 c' with
        | true => rw [← e1, edd, d3' t2']
        | false =>
          rcases d4' t2' with q | q
          · rw [← edd, e1, t2] at q; cases q
          · rw [← edd, e1] at q; exact absurd q z
      | false =>
        cases t2' : tr2 c' with
        | true =>
          have e1 := d3' t2'
          rcases d4 t2 with q | q
          · rw [edd, e1, t2'] at q; cases q
          · rw [edd, e1] at q; exact absurd q z'
        | false => exact p.inj c c' i hc hc' t2 t2' hi hi'
  rows i := by
    constructor
    · rintro ⟨c, hc, t, hi⟩
      by_cases z : c = j
      · rw [z, put_same] at hi
        cases hi
        exact .inl rfl
      · rw [put_ne _ _ z] at hi
        cases t2 : tr2 c with
        | true => exact .inr ⟨c, hc, t, by rw [← p.old c hc t2]; exact hi⟩
        | false =>
          rcases (p.rows i).mp ⟨c, hc, t2, hi⟩ with rfl | ⟨d, hd, td, hd2⟩
          · exact .inr ⟨j, hj, ht, hk⟩
          · exact .inr ⟨d, hd, by cases q : tr d with
              | true => rw [m2 d q] at td; cases td
              | false => rfl, hd2⟩
    · rintro (rfl | ⟨c, hc, t, hi⟩)
      · exact ⟨j, hj, ht, put_same _ _ _⟩
      · cases t2 : tr2 c with
        | true =>
          by_cases z : c = j
          · rw [z, hk] at hi
            cases hi
            obtain ⟨d, hd, td, hd2⟩ := (p.rows _).mpr (.inl rfl)
            have zd : d ≠ j := fun q => by rw [q, hj2] at td; cases td
            exact ⟨d, hd, by cases q : tr d with
              | true => rw [m2 d q] at td; cases td
              | false => rfl, by rw [put_ne _ _ zd]; exact hd2⟩
          · exact ⟨c, hc, t, by rw [put_ne _ _ z, p.old c hc t2]; exact hi⟩
        | false =>
          obtain ⟨d, hd, td, hd2⟩ := (p.rows i).mpr (.inr ⟨c, hc, t2, hi⟩)
          have zd : d ≠ j := fun q => by rw [q, hj2] at td; cases td
          exact ⟨d, hd, by cases q : tr d with
            | true => rw [m2 d q] at td; cases td
            | false => rfl, by rw [put_ne _ _ zd]; exact hd2⟩
/-- how many columns are not tried -/
def cnt (n : Nat) (tr : Nat → Bool) : Nat := ((List.range n).filter fun c => !tr c).length
theorem cnt_mono {n : Nat} {tr tr' : Nat → Bool} (h : ∀ c, tr c = true → tr' c = true) : cnt n tr' ≤ cnt n tr := by
  unfold cnt
  rw [← List.countP_eq_length_filter, ← List.countP_eq_length_filter]
  refine List.countP_mono_left fun c _ hc => ?_
  cases q : tr c with
  | true => rw [h c q] at hc; cases hc
  | false => rfl
theorem cnt_put {n j : Nat} {tr : Nat → Bool} (hj : j < n) (ht : tr j = false) : cnt n (put tr j true) < cnt n tr := by
  have h1 : ((List.range n).filter fun c => !put tr j true c) = ((List.range n).filter fun c => !tr c).filter fun c => c != j := by
    rw [List.filter_filter]
    refine List.filter_congr fun c _ => ?_
    by_cases z : c = j
    · rw [z, put_same]; simp
    · rw [put_ne _ _ z]; simp [z]
  unfold cnt
  rw [h1]
  have hm : j ∈ (List.range n).filter fun c => !tr c := List.mem_filter.mpr ⟨List.mem_range.mpr hj, by rw [ht]; rfl⟩
  refine Nat.lt_of_le_of_ne (List.length_filter_le _ _) fun z => ?_
  have := (List.length_filter_eq_length_iff.mp z) j hm
  simp at this
/-- as lists -/
def oV : Option Nat → V
  | none => .non
  | some i => .int (i : Nat)
def hL (n : Nat) (hs : Nat → Option Nat) : List V := (List.range n).map fun c => oV (hs c)
def tL (n : Nat) (tr : Nat → Bool) : List V := (List.range n).map fun c => V.bl (tr c)
theorem range_set' {α : Type} {n i : Nat} (f : Nat → α) (x : α) (hi : i < n) : ((List.range n).map f).set i x = (List.range n).map fun k => if k = i then x else f k := by
  apply List.ext_getElem?
  intro k
  by_cases hk : k < n
  · rw [List.getElem?_map, List.getElem?_range hk]
    by_cases e : k = i
    · subst e
      rw [List.getElem?_set_self (by simp; exact hk)]
      simp
    · rw [List.getElem?_set_ne (Ne.symm e), List.getElem?_map, List.getElem?_range hk]
      simp [e]
  · rw [List.getElem?_eq_none_iff.mpr (by simp; omega), List.getElem?_eq_none_iff.mpr (by simp; omega)]
theorem range_put {α : Type} {n j : Nat} (g : Nat → α) (h : α → V) (x : α) (hj : j < n) : ((List.range n).map fun c => h (g c)).set j (h x) = (List.range n).map fun c => h (put g j x c) := by
  rw [range_set' _ _ hj]
  refine List.map_congr_left fun c _ => ?_
  by_cases z : c = j
  · rw [if_pos z, z, put_same]
  · rw [if_neg z, put_ne _ _ z]
section
variable {P : Program} {w : World} {K : PySem.W.Frag} {mg : Str → Option Value} {base : Heap}
def sp_take (m : Nat) (K : PySem.W.Frag) : Sp := fun vs H Q _ => ∃ x y z u, vs = [x, y, z, u] ∧ ∃ (n b : Nat) (g : Gd) (r : Nat) (ha ta : Addr) (hs : Nat → Option Nat) (tr : Nat → Bool) (B : Hp), Is K B x (rws g) ∧ Sq n b g ∧ n ≤ 10 ∧ r < n ∧ y = .int (r : Nat) ∧ z = .ref ha ∧ u = .ref ta ∧
  H ha = some (.lst (hL n hs)) ∧ H ta = some (.lst (tL n tr)) ∧ ha ≠ ta ∧ KM n g hs tr r ∧ cnt n tr ≤ m ∧ Same B H ∧ B ha = none ∧ B ta = none ∧
  (∀ H' hs' tr', Same B H' → H' ha = some (.lst (hL n hs')) → H' ta = some (.lst (tL n tr')) → PT n g hs hs' tr r → Q (.bl true) H') ∧
  (∀ H' tr', Same B H' → H' ha = some (.lst (hL n hs)) → H' ta = some (.lst (tL n tr')) → PF n g hs tr tr' r → Q (.bl false) H')
theorem hL_len (n : Nat) (hs : Nat → Option Nat) : (hL n hs).length = n := by unfold hL; simp
theorem tL_len (n : Nat) (tr : Nat → Bool) : (tL n tr).length = n := by unfold tL; simp
theorem hL_at {n j : Nat} (hs : Nat → Option Nat) (h : j < n) : (hL n hs)[j]? = some (oV (hs j)) := by unfold hL; rw [List.getElem?_map, List.getElem?_range h]; rfl
theorem tL_at {n j : Nat} (tr : Nat → Bool) (h : j < n) : (tL n tr)[j]? = some (.bl (tr j)) := by unfold tL; rw [List.getElem?_map, List.getElem?_range h]; rfl
theorem hL_put {n j r : Nat} (hs : Nat → Option Nat) (h : j < n) : (hL n hs).set j (.int (r : Nat)) = hL n (put hs j (some r)) := range_put hs oV (some r) h
theorem tL_put {n j : Nat} (tr : Nat → Bool) (h : j < n) : (tL n tr).set j (.bl true) = tL n (put tr j true) := range_put tr V.bl true h
abbrev n_take_column : List Str := ["rows", "row", "holders", "tried", "column", "item"]
theorem sc_take_column : FnScope n_take_column ["rows", "row", "holders", "tried"] (defScope s_take_column) := ⟨rfl, rfl, rfl, by decide +kernel, rfl, by decide +kernel, by decide +kernel⟩
theorem bd_take (kV doc pm : Value) (an : Option Addr) (cdv ct : Value) (us : List Value) (hl : us.length = 4) : bindArgs (PySem.W.fnOf "take_column" "take_column" (defArgs s_take_column) (defBody s_take_column) (defScope s_take_column) .none kV doc pm an cdv ct) ⟨us, []⟩ = pure ((["rows", "row", "holders", "tried"] : List Str).zip us) :=
  match us, hl with | [_, _, _, _], _ => rfl
theorem ok_take_column (T : Txt K mg) : ∀ m, Ok P w K mg base "take_column" ["rows", "row", "holders", "tried"] (m + 1) (sp_take m K)
  | 0 => by
    refine T.x_take_column.ok sc_take_column (fun _ _ _ _ _ _ us hl => bd_take _ _ _ _ _ _ us hl) (fun vs H Q E h => by obtain ⟨_, _, _, _, rfl, _⟩ := h; rfl) (fun f cdv A outer s H vs Q E hr h => ?_)
    obtain ⟨_, _, _, _, rfl, n, b, g, r, ha, ta, hs, tr, B, hx, sq, hn, hr0, rfl, rfl, rfl, hha, hta, hne, km, hm, sB, nha, nta, qt, qf⟩ := h
    refine ⟨_, (pss_cons (ps_for PassesOwn.never rfl (pi_enumT rfl T.b_enumerate (pa_cons (pe_ix ix_tup (pv 0) (pv 1) (fun _ _ => rfl)) pa_nil)) (by refine pg2 (i := 4) (j := 5) K rfl sc_take_column.nd ?_ ?_ ?_ ?_ ?_ ?_ ?_ <;> first | rfl | exact .inl rfl | exact .inr rfl)
      (pss_one (ps_if (PW.pt (pw_and (pt_cmp (pc_notN (pv 5))) (pw_and1 (pt_not (pt_val (pe_ix ix_list (pv 3) (pv 4) (fun _ _ => rfl)))))))
        pss_never
        pss_nil)))
    (pss_one (ps_ret pe_bl))), ?_⟩
    dsimp only [tVar, tC, tAdd, tSub, tMul, t2I, tCmp, tIsN, tNotN, tB, tAnd, tOr, tNot, tAndV, tOrV, tNotV, tIf, tSeq, tNext, tDrop, tRet, tRetN, tIfS, tAsg, tAug, tPar, gName, gNil, gCons, gSub, tOp, tUn, tTest, tChain, tCons, tNil, tTup, tLst, tCall, tCB, tMake, tFld, sFld, tNoPart, tPart, tSl, tBM, tBM0, rI0, rI, tYes, Cx.nox, Cx.blk, cxOf, List.nil_append, List.cons_append]
    have full : ∀ c, c < n → tr c = true := fun c hc => by
      cases q : tr c with
      | true => rfl
      | false =>
        have := cnt_put hc q
        omega
    obtain ⟨row0, q1, q2, q3⟩ := sq.row hr0
    obtain ⟨a, xs, rfl, ht, hxa⟩ := hx.tup_ex
    obtain ⟨v, hv1, hv2⟩ := hxa.getM q1
    obtain ⟨c, ys, rfl, hty, hya⟩ := hv2.tup_ex
    have hyl : ys.length = n := by rw [hya.length, List.length_map, q2]
    refine forF (B := H) (feedET (SqT.same sB hty)) (fun R k => ⟨_, rfl, _, rfl, a, xs, _, _, rfl, rfl, SqT.same sB ht, atI_nat hv1, c, ys, rfl, SqT.same sB hty, k⟩)
      (fun i σ H' => (∃ y4 y5, σ = [some (.ref a), some (.int (r : Nat)), some (.ref ha), some (.ref ta), y4, y5]) ∧ Same H H') ⟨⟨_, _, rfl⟩, Same.refl _⟩ (fun _ _ _ h => h.2) (fun j x σ H1 H2 hj hP s it => ?_) (fun σ H1 hP => ?_)
    · obtain ⟨⟨y4, y5, rfl⟩, s1⟩ := hP
      obtain ⟨T', v, rfl, e1, e2⟩ := it
      have hj : j < n := by omega
      refine gPair e2 ?_
      dsimp only [tVar, tC, tAdd, tSub, tMul, t2I, tCmp, tIsN, tNotN, tB, tAnd, tOr, tNot, tAndV, tOrV, tNotV, tIf, tSeq, tNext, tDrop, tRet, tRetN, tIfS, tAsg, tAug, tPar, gName, gNil, gCons, gSub, tOp, tUn, tTest, tChain, tCons, tNil, tTup, tLst, tCall, tCB, tMake, tFld, sFld, tNoPart, tPart, tSl, tBM, tBM0, rI0, rI, tYes, Cx.nox, Cx.blk, cxOf, List.nil_append, List.cons_append]
      refine ⟨_, rfl, _, rfl, ?_⟩
      have fin : (∃ y4 y5, [some (.ref a), some (.int (r : Nat)), some (.ref ha), some (.ref ta), some (.int (j : Nat)), some v] = [some (.ref a), some (.int (r : Nat)), some (.ref ha), some (.ref ta), y4, y5]) ∧ Same H H2 := ⟨⟨_, _, rfl⟩, s1.trans s⟩
      by_cases hv : v = .non
      · exact ifF (by rw [hv]; rfl) (ifF rfl fin)
      · refine ifT (by rw [decide_eq_false hv]; rfl) ⟨_, rfl, _, rfl, ta, _, _, _, rfl, rfl, SqL.of ((s1.trans s) _ _ hta), atI_nat (tL_at tr hj), _, rfl, ?_⟩
        rw [full j hj]
        exact ifF rfl fin
    · obtain ⟨⟨y4, y5, rfl⟩, s1⟩ := hP
      refine qf H1 tr (sB.trans s1) (s1 _ _ hha) (s1 _ _ hta) ⟨fun _ h => h, fun c e => full c e.2.1, fun c hc _ h => by rw [full c hc] at h; cases h⟩
  | m + 1 => by
    have ih := ok_take_column T m
    refine T.x_take_column.ok sc_take_column (fun _ _ _ _ _ _ us hl => bd_take _ _ _ _ _ _ us hl) (fun vs H Q E h => by obtain ⟨_, _, _, _, rfl, _⟩ := h; rfl) (fun f cdv A outer s H vs Q E hr h => ?_)
    obtain ⟨_, _, _, _, rfl, n, b, g, r, ha, ta, hs, tr, B, hx, sq, hn, hr0, rfl, rfl, rfl, hha, hta, hne, km, hm, sB, nha, nta, qt, qf⟩ := h
    refine ⟨_, (pss_cons (ps_for PassesOwn.never rfl (pi_enumT rfl T.b_enumerate (pa_cons (pe_ix ix_tup (pv 0) (pv 1) (fun _ _ => rfl)) pa_nil)) (by refine pg2 (i := 4) (j := 5) K rfl sc_take_column.nd ?_ ?_ ?_ ?_ ?_ ?_ ?_ <;> first | rfl | exact .inl rfl | exact .inr rfl)
      (pss_one (ps_if (PW.pt (pw_and (pt_cmp (pc_notN (pv 5))) (pw_and1 (pt_not (pt_val (pe_ix ix_list (pv 3) (pv 4) (fun _ _ => rfl)))))))
        (pss_cons (ps_asg pe_bl (pg_sub (pv 3) (pv 4) set_list))
        (pss_one (ps_if (PW.pt (pw_or (pt_cmp (pc_isN (pe_ix ix_list (pv 2) (pv 4) (fun _ _ => rfl)))) (pw_or1 (pt_val (pc (hk := Nat.le_refl _) ih hr rfl (pa_cons (pv 0) (pa_cons (pe_ix ix_list (pv 2) (pv 4) (fun _ _ => rfl)) (pa_cons (pv 2) (pa_cons (pv 3) pa_nil)))))))))
          (pss_cons (ps_asg (pv 1) (pg_sub (pv 2) (pv 4) set_list))
          (pss_one (ps_ret pe_bl)))
          pss_nil)))
        pss_nil)))
    (pss_one (ps_ret pe_bl))), ?_⟩
    dsimp only [tVar, tC, tAdd, tSub, tMul, t2I, tCmp, tIsN, tNotN, tB, tAnd, tOr, tNot, tAndV, tOrV, tNotV, tIf, tSeq, tNext, tDrop, tRet, tRetN, tIfS, tAsg, tAug, tPar, gName, gNil, gCons, gSub, tOp, tUn, tTest, tChain, tCons, tNil, tTup, tLst, tCall, tCB, tMake, tFld, sFld, tNoPart, tPart, tSl, tBM, tBM0, rI0, rI, tYes, Cx.nox, Cx.blk, cxOf, List.nil_append, List.cons_append]
    obtain ⟨row0, q1, q2, q3⟩ := sq.row hr0
    obtain ⟨a, xs, rfl, ht, hxa⟩ := id hx.tup_ex
    obtain ⟨v, hv1, hv2⟩ := hxa.getM q1
    obtain ⟨c, ys, rfl, hty, hya⟩ := hv2.tup_ex
    have hyl : ys.length = n := by rw [hya.length, List.length_map, q2]
    refine forF (B := B) (feedET hty) (fun R k => ⟨_, rfl, _, rfl, a, xs, _, _, rfl, rfl, SqT.same sB ht, atI_nat hv1, c, ys, rfl, SqT.same sB hty, k⟩)
      (fun i σ H' => (∃ y4 y5, σ = [some (.ref a), some (.int (r : Nat)), some (.ref ha), some (.ref ta), y4, y5]) ∧ Same B H' ∧ H' ha = some (.lst (hL n hs)) ∧ ∃ tr', H' ta = some (.lst (tL n tr')) ∧ (∀ c, tr c = true → tr' c = true) ∧ (∀ c, c < i → Ed n g r c → tr' c = true) ∧
        ∀ c, c < n → tr' c = true → tr c = false → ∃ h, hs c = some h ∧ ∀ c', Ed n g h c' → tr' c' = true)
      ⟨⟨_, _, rfl⟩, sB, hha, tr, hta, fun _ h => h, fun c h => absurd h (Nat.not_lt_zero _), fun c _ h1 h2 => by rw [h1] at h2; cases h2⟩ (fun _ _ _ h => h.2.1) (fun j x σ H1 H2 hj hP s it => ?_) (fun σ H1 hP => ?_)
    · obtain ⟨⟨y4, y5, rfl⟩, s1, h1, tr', h2, mo, nb, cl⟩ := hP
      obtain ⟨T', v, rfl, e1, e2⟩ := it
      have hj : j < n := by omega
      have s2 := s1.trans s
      have h1 := s _ _ h1
      have h2 := s _ _ h2
      obtain ⟨d, hd, hv⟩ := hya.get' e1
      obtain ⟨row1, p1, p2, p3⟩ := sq.cel hr0 hj
      rw [q1] at p1
      cases p1
      rw [List.getElem?_map, p3] at hd
      cases hd
      have hv := hv.same s2
      refine gPair e2 ?_
      dsimp only [tVar, tC, tAdd, tSub, tMul, t2I, tCmp, tIsN, tNotN, tB, tAnd, tOr, tNot, tAndV, tOrV, tNotV, tIf, tSeq, tNext, tDrop, tRet, tRetN, tIfS, tAsg, tAug, tPar, gName, gNil, gCons, gSub, tOp, tUn, tTest, tChain, tCons, tNil, tTup, tLst, tCall, tCB, tMake, tFld, sFld, tNoPart, tPart, tSl, tBM, tBM0, rI0, rI, tYes, Cx.nox, Cx.blk, cxOf, List.nil_append, List.cons_append]
      have skip : (Ed n g r j → tr' j = true) → (∃ y4 y5, [some (.ref a), some (.int (r : Nat)), some (.ref ha), some (.ref ta), some (.int (j : Nat)), some v] = [some (.ref a), some (.int (r : Nat)), some (.ref ha), some (.ref ta), y4, y5]) ∧ Same B H2 ∧ H2 ha = some (.lst (hL n hs)) ∧ ∃ tr', H2 ta = some (.lst (tL n tr')) ∧ (∀ c, tr c = true → tr' c = true) ∧ (∀ c, c < j + 1 → Ed n g r c → tr' c = true) ∧
          ∀ c, c < n → tr' c = true → tr c = false → ∃ h, hs c = some h ∧ ∀ c', Ed n g h c' → tr' c' = true := fun hh =>
        ⟨⟨_, _, rfl⟩, s2, h1, tr', h2, mo, fun c hc e => by
          by_cases z : c = j
          · rw [z] at e ⊢; exact hh e
          · exact nb c (by omega) e, cl⟩
      refine ⟨_, rfl, _, rfl, ?_⟩
      cases hc : ce g r j with
      | none =>
        rw [hc] at hv
        exact ifF (by rw [hv.non_eq]; rfl) (ifF rfl (skip fun ⟨_, _, u, e⟩ => by rw [hc] at e; cases e))
      | some u =>
        rw [hc] at hv
        have hvT : Is K H2 v (un u) := hv
        have edge : Ed n g r j := ⟨hr0, hj, u, hc⟩
        refine ifT (by rw [decide_eq_false hvT.notNon]; rfl) ⟨_, rfl, _, rfl, ta, _, _, _, rfl, rfl, SqL.of h2, atI_nat (tL_at tr' hj), _, rfl, ?_⟩
        cases htj : tr' j with
        | true => exact ifF rfl (skip fun _ => htj)
        | false =>
          have htr : tr j = false := by
            cases q : tr j with
            | true => rw [mo j q] at htj; cases htj
            | false => rfl
          refine ifT rfl ⟨_, rfl, _, rfl, ta, _, _, j, rfl, rfl, h2, ixN_nat (by rw [tL_len]; exact hj), ?_⟩
          rw [tL_put tr' hj]
          have s3 : Same B (upd H2 ta (.lst (tL n (put tr' j true)))) := s2.out nta
          have h3 : upd H2 ta (.lst (tL n (put tr' j true))) ha = some (.lst (hL n hs)) := by rw [upd_ne hne]; exact h1
          have h4 : upd H2 ta (.lst (tL n (put tr' j true))) ta = some (.lst (tL n (put tr' j true))) := upd_same
          generalize upd H2 ta (.lst (tL n (put tr' j true))) = H3 at s3 h3 h4
          have mo2 : ∀ c, tr c = true → put tr' j true c = true := fun c h => by
            by_cases z : c = j
            · rw [z, put_same]
            · rw [put_ne _ _ z]; exact mo c h
          have down : ∀ c, put tr' j true c = false → tr c = false ∧ c ≠ j := fun c h => by
            have z : c ≠ j := fun z => by rw [z, put_same] at h; cases h
            refine ⟨?_, z⟩
            rw [put_ne _ _ z] at h
            cases q : tr c with
            | true => rw [mo c q] at h; cases h
            | false => rfl
          -- holders[column] = row
          have fin : ∀ H4 hs' tr4, Same B H4 → H4 ha = some (.lst (hL n hs')) → H4 ta = some (.lst (tL n tr4)) → PT n g hs (put hs' j (some r)) tr r → rSetL (.ref ha) (.int (j : Nat)) (.int (r : Nat)) H4 fun H3 => Q (.bl true) H3 := fun H4 hs' tr4 s4 g1 g2 pt => by
            refine ⟨ha, _, _, j, rfl, rfl, g1, ixN_nat (by rw [hL_len]; exact hj), ?_⟩
            rw [hL_put hs' hj]
            exact qt _ _ tr4 (s4.out nha) upd_same (by rw [upd_ne (Ne.symm hne)]; exact g2) pt
          refine ⟨_, rfl, _, rfl, ha, _, _, _, rfl, rfl, SqL.of h3, atI_nat (hL_at hs hj), _, rfl, ?_⟩
          cases hk : hs j with
          | none =>
            exact ifT rfl (ifT rfl ⟨_, rfl, _, rfl, _, rfl, fin H3 hs _ s3 h3 h4 (PT.base km hj edge htr hk)⟩)
          | some k =>
            refine ifF rfl ⟨_, rfl, _, rfl, _, rfl, ha, _, _, _, rfl, rfl, SqL.of h3, atI_nat (hL_at hs hj), _, rfl, _, rfl, ?_⟩
            rw [hk]
            refine ⟨_, _, _, _, rfl, n, b, g, k, ha, ta, hs, put tr' j true, B, hx, sq, hn, (km.ed j k hj hk).1, rfl, rfl, rfl, h3, h4, hne, ?_, ?_, s3, nha, nta, fun H4 hs' tr4 s4 g1 g2 pt => ?_, fun H4 tr4 s4 g1 g2 pf => ?_⟩
            · exact ⟨km.ed, fun c c' i hc hc' t t' => km.inj c c' i hc hc' (down c t).1 (down c' t').1, fun c hc t hi => (down c t).2 (km.inj c j k hc hj (down c t).1 htr hi hk)⟩
            · have := cnt_put hj htj
              have := cnt_mono (n := n) mo
              omega
            · exact ⟨_, rfl, ifT rfl ⟨_, rfl, _, rfl, _, rfl, fin H4 hs' tr4 s4 g1 g2 (PT.rec_ km hj edge htr hk mo2 (put_same _ _ _) pt)⟩⟩
            · refine ⟨_, rfl, ifF rfl ⟨⟨_, _, rfl⟩, s4, g1, tr4, g2, fun c h => pf.mono c (mo2 c h), fun c hc e => ?_, fun c hc t t2 => ?_⟩⟩
              · by_cases z : c = j
                · rw [z]
                  exact pf.mono j (put_same _ _ _)
                · refine pf.mono c ?_
                  rw [put_ne _ _ z]
                  exact nb c (by omega) e
              · cases q : put tr' j true c with
                | false => exact pf.cl c hc t q
                | true =>
                  by_cases z : c = j
                  · rw [z]
                    exact ⟨k, hk, pf.nb⟩
                  · rw [put_ne _ _ z] at q
                    obtain ⟨h, g3, g4⟩ := cl c hc q t2
                    refine ⟨h, g3, fun c' e => pf.mono c' ?_⟩
                    by_cases z' : c' = j
                    · rw [z', put_same]
                    · rw [put_ne _ _ z']
                      exact g4 c' e
    · obtain ⟨⟨y4, y5, rfl⟩, s1, h1, tr', h2, mo, nb, cl⟩ := hP
      exact qf H1 tr' s1 h1 h2 ⟨mo, fun c e => nb c (by rw [hyl]; exact e.2.1) e, cl⟩
end
end UG
end
section
/-! Unitgrids, placings.py: the rows placed. -/
namespace UG
open PySem PySem.Spec PyProof.Rows L2 RZ UM
/-- the first i rows hold columns -/
structure MT (n : Nat) (g : Gd) (hs : Nat → Option Nat) (i : Nat) : Prop where
  ed : ∀ c k, c < n → hs c = some k → Ed n g k c
  inj : ∀ c c' k, c < n → c' < n → hs c = some k → hs c' = some k → c = c'
  rows : ∀ k, (∃ c, c < n ∧ hs c = some k) ↔ k < i
theorem MT.km {n i : Nat} {g : Gd} {hs : Nat → Option Nat} (h : MT n g hs i) : KM n g hs (fun _ => false) i :=
  ⟨h.ed, fun c c' k hc hc' _ _ => h.inj c c' k hc hc', fun c hc _ e => absurd ((h.rows i).mp ⟨c, hc, e⟩) (Nat.lt_irrefl i)⟩
theorem MT.next {n i : Nat} {g : Gd} {hs hs' : Nat → Option Nat} (h : MT n g hs i) (p : PT n g hs hs' (fun _ => false) i) : MT n g hs' (i + 1) := by
  refine ⟨p.ed, fun c c' k hc hc' => p.inj c c' k hc hc' rfl rfl, fun k => ?_⟩
  have := p.rows k
  constructor
  · rintro ⟨c, hc, e⟩
    rcases this.mp ⟨c, hc, rfl, e⟩ with rfl | ⟨d, hd, _, e⟩
    · exact Nat.lt_succ_self _
    · have := (h.rows k).mp ⟨d, hd, e⟩
      omega
  · intro hk
    have : k = i ∨ ∃ d, d < n ∧ (fun _ : Nat => false) d = false ∧ hs d = some k := by
      by_cases e : k = i
      · exact .inl e
      · obtain ⟨d, hd, e⟩ := (h.rows k).mpr (by omega)
        exact .inr ⟨d, hd, rfl, e⟩
    obtain ⟨c, hc, _, e⟩ := (p.rows k).mpr this
    exact ⟨c, hc, e⟩
/-- a starving row: nothing places all -/
theorem starve {n i : Nat} {g : Gd} {hs : Nat → Option Nat} {tr' : Nat → Bool} (h : MT n g hs i) (hi : i < n) (f : PF n g hs (fun _ => false) tr' i) (q : Nat → Nat) : ¬ IsP n (Ed n g) q := by
  intro hq
  let T := (List.range n).filter tr'
  let S := i :: T.map fun c => (hs c).getD 0
  have hT : ∀ c ∈ T, c < n ∧ tr' c = true := fun c hc => by
    obtain ⟨h1, h2⟩ := List.mem_filter.mp hc
    exact ⟨List.mem_range.mp h1, h2⟩
  have hold : ∀ c ∈ T, ∃ k, hs c = some k ∧ ∀ c', Ed n g k c' → tr' c' = true := fun c hc => f.cl c (hT c hc).1 (hT c hc).2 rfl
  have hTn : T.Nodup := List.Pairwise.filter _ List.nodup_range
  have hSn : S.Nodup := by
    rw [List.nodup_cons]
    refine ⟨fun hm => ?_, nodup_map hTn fun x hx y hy e => ?_⟩
    · obtain ⟨c, hc, e⟩ := List.mem_map.mp hm
      obtain ⟨k, hk, _⟩ := hold c hc
      rw [hk] at e
      have e : k = i := e
      exact absurd ((h.rows k).mp ⟨c, (hT c hc).1, hk⟩) (by omega)
    · obtain ⟨k, hk, _⟩ := hold x hx
      obtain ⟨k', hk', _⟩ := hold y hy
      rw [hk, hk'] at e
      have e : k = k' := e
      subst e
      exact h.inj x y k (hT x hx).1 (hT y hy).1 hk hk'
  have hSlt : ∀ s ∈ S, s < n ∧ tr' (q s) = true := fun s hs' => by
    rcases List.mem_cons.mp hs' with rfl | hm
    · exact ⟨hi, f.nb _ (hq.at_ _ hi)⟩
    · obtain ⟨c, hc, rfl⟩ := List.mem_map.mp hm
      obtain ⟨k, hk, hk2⟩ := hold c hc
      rw [hk]
      have hkn := (h.ed c k (hT c hc).1 hk).1
      exact ⟨hkn, hk2 _ (hq.at_ k hkn)⟩
  have h1 : (S.map q).Nodup := nodup_map hSn fun x hx y hy e => hq.inj x y (hSlt x hx).1 (hSlt y hy).1 e
  have h2 := nodup_len (S.map q) T h1 fun x hx => by
    obtain ⟨s, hs', rfl⟩ := List.mem_map.mp hx
    exact List.mem_filter.mpr ⟨List.mem_range.mpr (hq.lt s (hSlt s hs').1), (hSlt s hs').2⟩
  have h3 : (S.map q).length = T.length + 1 := by simp [S]
  omega
/-- the column that a row holds -/
def colOf (n : Nat) (hs : Nat → Option Nat) (i : Nat) : Nat := ((List.range n).find? fun c => decide (hs c = some i)).getD 0
theorem colOf_eq {n i c : Nat} {g : Gd} {hs : Nat → Option Nat} (h : MT n g hs n) (hc : c < n) (e : hs c = some i) : colOf n hs i = c := by
  unfold colOf
  cases q : (List.range n).find? fun c => decide (hs c = some i) with
  | none =>
    have := List.find?_eq_none.mp q c (List.mem_range.mpr hc)
    simp [e] at this
  | some d =>
    have h1 := List.find?_some q
    have h2 := List.mem_of_find?_eq_some q
    simp only [decide_eq_true_eq] at h1
    exact h.inj d c i (List.mem_range.mp h2) hc h1 e
theorem MT.pl {n : Nat} {g : Gd} {hs : Nat → Option Nat} (h : MT n g hs n) : Pl n g ((List.range n).map (colOf n hs)) := by
  have at_ : ∀ i, i < n → ∃ c, c < n ∧ hs c = some i ∧ ((List.range n).map (colOf n hs)).getD i 0 = c := fun i hi => by
    obtain ⟨c, hc, e⟩ := (h.rows i).mpr hi
    refine ⟨c, hc, e, ?_⟩
    rw [List.getD_eq_getElem?_getD, List.getElem?_map, List.getElem?_range hi]
    exact colOf_eq h hc e
  refine ⟨by simp, ⟨⟨fun i hi => ?_, fun i j hi hj e => ?_⟩, fun i hi => ?_⟩⟩
  · obtain ⟨c, hc, _, e⟩ := at_ i hi
    show _ < n
    simp only [e]
    exact hc
  · obtain ⟨c, hc, e1, e2⟩ := at_ i hi
    obtain ⟨d, hd, e3, e4⟩ := at_ j hj
    have e : ((List.range n).map (colOf n hs)).getD i 0 = ((List.range n).map (colOf n hs)).getD j 0 := e
    rw [e2, e4] at e
    subst e
    rw [e1] at e3
    exact Option.some.inj e3
  · obtain ⟨c, hc, e1, e2⟩ := at_ i hi
    show Ed n g i (((List.range n).map (colOf n hs)).getD i 0)
    rw [e2]
    exact h.ed c i hc e1
section
variable {X : Cx} {o e : Expr} {es : List Expr} {to : TE} {t : TA} {apos cpos : Pos}
/-- l.index(x), within a comprehension's block -/
theorem pe_lindexK (K : PySem.W.Frag) (eK : X.K = K) (ho : PE X o to) (ha : PA X (e :: es) t)
    (hbase : attributeBase o "index" X.env (eval o X.env) = eval o X.env := by rfl)
    (hfew : ((backTo cpos (starEach (e :: es) X.env)).all (fun x => !x.1) && (backToKw cpos (keywordEach [] X.env)).all (fun x => x.1.isSome)
      && decide ((e :: es).length + ([] : List Keyword).length + (if ([] : List Keyword).isEmpty then 0 else 1) < 30)) = true := by rfl)
    (hline : (apos.endLine == cpos.line) = true := by rfl) (hs : starEach (e :: es) X.env = (false, eval e X.env) :: starEach es X.env := by rfl) (hplain : (backTo cpos (starEach es X.env)).any (·.1) = false := by rfl) :
    PE X (.Call (.Attribute o "index" apos) (e :: es) [] cpos) (tBM K "list" (rIndex K) to t) := by
  subst eK
  exact pe_bm PySem.F.plainAttrs_list PySem.F.slot_list_index PySem.F.type_list_index mt_index ho ha hbase hfew hline hs hplain
end
section
variable {P : Program} {w : World} {K : PySem.W.Frag} {mg : Str → Option Value} {base : Heap}
def sp_placed (K : PySem.W.Frag) : Sp := fun vs H Q _ => ∃ x y, vs = [x, y] ∧ ∃ (n b : Nat) (g : Gd), Is K H x (rws g) ∧ Sq n b g ∧ n ≤ 10 ∧ y = .int (n : Nat) ∧
  ∀ H' p v1 v2, Same H H' → H' p = some (.tup [v1, v2]) → ((v1 = .non ∧ ∀ q, ¬ IsP n (Ed n g) q) ∨ ∃ pl, Is K H' v1 (tn pl) ∧ Pl n g pl) → Q (.ref p) H'
theorem rep_hL (n : Nat) : (List.replicate ((n : Nat) : Int).toNat [V.non]).flatten = hL n fun _ => none := by
  rw [Int.toNat_natCast, flat_one]
  unfold hL
  rw [List.map_const', List.length_range]
  rfl
theorem rep_tL (n : Nat) : (List.replicate ((n : Nat) : Int).toNat [V.bl false]).flatten = tL n fun _ => false := by
  rw [Int.toNat_natCast, flat_one]
  unfold tL
  rw [List.map_const', List.length_range]
theorem flat_hL (n : Nat) (hs : Nat → Option Nat) : (hL n hs).all flatV = true := by
  unfold hL
  rw [List.all_map, List.all_eq_true]
  intro c _
  show flatV (oV (hs c)) = true
  cases hs c <;> rfl
theorem eq_oV (o : Option Nat) (i : Nat) : eqV (oV o) (.int (i : Nat)) = decide (o = some i) := by
  cases o with
  | none => rfl
  | some k =>
    show (((k : Nat) : Int) == ((i : Nat) : Int)) = decide (some k = some i)
    by_cases e : k = i
    · subst e; simp
    · have h1 : (((k : Nat) : Int) == ((i : Nat) : Int)) = false := by simp; omega
      rw [h1, decide_eq_false fun z => e (Option.some.inj z)]
abbrev n_placed : List Str := ["rows", "columns", "holders", "row", "tried", "moved", "holder", "asked"]
theorem sc_placed : FnScope n_placed ["rows", "columns"] (defScope s_placed) := ⟨rfl, rfl, rfl, by decide +kernel, rfl, by decide +kernel, by decide +kernel⟩
theorem ok_placed (T : Txt K mg) : Ok P w K mg base "placed" ["rows", "columns"] 12 (sp_placed K) := by
  refine T.x_placed.ok sc_placed (fun _ _ _ _ _ _ us hl => match us, hl with | [_, _], _ => rfl) (fun vs H Q E h => by obtain ⟨_, _, rfl, _⟩ := h; rfl) (fun f cdv A outer s H vs Q E hr h => ?_)
  obtain ⟨x, _, rfl, n, b, g, hx, sq, hn, rfl, q⟩ := h
  have hgl : g.length = n := sq.num
  have hxl : ∀ {H' : Hp}, Same H H' → LenO K H' x n := fun s => by
    have := rwsLen (hx.same s)
    rwa [hgl] at this
  refine ⟨_, (pss_cons (ps_set (i := 2) sc_placed.nd rfl (.inr rfl) (pe_op op_rep (pe_lst (pa_cons pe_non pa_nil)) (pv 1)))
    (pss_cons (ps_for PassesOwn.never rfl (pi_range1 rfl T.b_range (pa_cons (pe_callB call_lenO (by rfl) T.b_len bt_len (pa_cons (pv 0) pa_nil)) pa_nil)) (pg_name (i := 3) sc_placed.nd rfl (.inl rfl))
      (pss_cons (ps_set (i := 4) sc_placed.nd rfl (.inl rfl) (pe_op op_rep (pe_lst (pa_cons pe_bl pa_nil)) (pv 1)))
      (pss_one (ps_if (pt_not (pt_val (pc (ok_take_column T 10) hr rfl (pa_cons (pv 0) (pa_cons (pv 3) (pa_cons (pv 2) (pa_cons (pv 4) pa_nil)))))))
        (pss_cons (ps_setLc (i := 5) (own := [("holder", 6), ("asked", 7)]) rfl sc_placed.nd rfl rfl (sw_true rfl rfl rfl (by decide +kernel)) (pi_zipA rfl T.b_zip (pa_cons (pv 2) (pa_cons (pv 4) pa_nil))) (blkOk_by (N := n_placed) (sc := (defScope s_placed)) (by decide +kernel)) (fun _ _ _ _ _ => (by refine pg2 (i := 6) (j := 7) K rfl sc_placed.nd ?_ ?_ ?_ ?_ ?_ ?_ ?_ <;> first | rfl | exact .inl rfl | exact .inr rfl)) (fun _ _ _ _ _ => (pts_one (pt_val (pv 7)))) (fun _ _ _ _ _ => (pv 6)))
        (pss_one (ps_ret (pe_tup (pa_cons pe_non (pa_cons (pe_callTy call_tuple_of (by rfl) T.b_tuple bt_tuple (pa_cons (pe_callB (cr_sortedI) (by rfl) T.b_sorted bt_sorted (pa_cons (pe_op op_cat (pe_lst (pa_cons (pv 3) pa_nil)) (pv 5)) pa_nil)) pa_nil)) pa_nil))))))
        pss_nil))))
    (pss_one (ps_ret (pe_tup (pa_cons (pe_callTy call_tuple_of (by rfl) T.b_tuple bt_tuple (pa_cons (pe_lc (own := [("row", 3)]) rfl sc_placed.nd (pi_range1 rfl T.b_range (pa_cons (pe_callB call_lenO (by rfl) T.b_len bt_len (pa_cons (pv 0) pa_nil)) pa_nil)) (blkOk_by (N := n_placed) (sc := (defScope s_placed)) (by decide +kernel)) (fun _ _ _ _ _ => (pg_name (i := 3) sc_placed.nd rfl (.inl rfl))) (fun _ _ _ _ _ => pts_nil) (fun _ _ _ _ _ => (pe_lindexK K (by rfl) (pv 2) (pa_cons (pv 3) pa_nil)))) pa_nil)) (pa_cons pe_non pa_nil))))))), ?_⟩
  dsimp only [tVar, tC, tAdd, tSub, tMul, t2I, tCmp, tIsN, tNotN, tB, tAnd, tOr, tNot, tAndV, tOrV, tNotV, tIf, tSeq, tNext, tDrop, tRet, tRetN, tIfS, tAsg, tAug, tPar, gName, gNil, gCons, gSub, tOp, tUn, tTest, tChain, tCons, tNil, tTup, tLst, tCall, tCB, tMake, tFld, sFld, tNoPart, tPart, tSl, tBM, tBM0, rI0, rI, tYes, Cx.nox, Cx.blk, cxOf, List.nil_append, List.cons_append]
  refine ⟨one_le, fun c0 nc0 => ⟨_, rfl, c0, _, _, rfl, rfl, upd_same, by omega, by omega, by simp; exact le_line (by omega), fun ha nha => ?_⟩⟩
  rw [rep_hL]
  have s0 : Same H (upd (upd H c0 (.lst [.non])) ha (.lst (hL n fun _ => none))) := (same_upd nc0).new nha
  have n1 : H ha = none := (same_upd (o := .lst [.non]) nc0).free nha
  have h0 : upd (upd H c0 (.lst [.non])) ha (.lst (hL n fun _ => none)) ha = some (.lst (hL n fun _ => none)) := upd_same
  generalize upd (upd H c0 (.lst [.non])) ha (.lst (hL n fun _ => none)) = H0 at s0 h0
  dsimp only [tVar, tC, tAdd, tSub, tMul, t2I, tCmp, tIsN, tNotN, tB, tAnd, tOr, tNot, tAndV, tOrV, tNotV, tIf, tSeq, tNext, tDrop, tRet, tRetN, tIfS, tAsg, tAug, tPar, gName, gNil, gCons, gSub, tOp, tUn, tTest, tChain, tCons, tNil, tTup, tLst, tCall, tCB, tMake, tFld, sFld, tNoPart, tPart, tSl, tBM, tBM0, rI0, rI, tYes, Cx.nox, Cx.blk, cxOf, List.nil_append, List.cons_append]
  refine forF (B := H) (feedR 0 n) (fun R r => ⟨_, rfl, _, _, rfl, hxl s0, _, rfl, by omega, by omega, r⟩)
    (fun i σ H' => (∃ y3 y4 y5 y6 y7, σ = [some x, some (.int (n : Nat)), some (.ref ha), y3, y4, y5, y6, y7]) ∧ Same H H' ∧ ∃ hs, H' ha = some (.lst (hL n hs)) ∧ MT n g hs i)
    ⟨⟨_, _, _, _, _, rfl⟩, s0, _, h0, ⟨fun c k _ h => (nomatch h), fun c c' k _ _ h => (nomatch h), fun k => ⟨fun ⟨_, _, h⟩ => (nomatch h), fun h => absurd h (Nat.not_lt_zero _)⟩⟩⟩ (fun _ _ _ h => h.2.1) (fun i x' σ H1 H2 hi hP s it => ?_) (fun σ H1 hP => ?_)
  · obtain ⟨⟨y3, y4, y5, y6, y7, rfl⟩, s1, hs, hh, mt⟩ := hP
    subst it
    rw [Int.zero_add]
    have s2 := s1.trans s
    have hh := s _ _ hh
    dsimp only [tVar, tC, tAdd, tSub, tMul, t2I, tCmp, tIsN, tNotN, tB, tAnd, tOr, tNot, tAndV, tOrV, tNotV, tIf, tSeq, tNext, tDrop, tRet, tRetN, tIfS, tAsg, tAug, tPar, gName, gNil, gCons, gSub, tOp, tUn, tTest, tChain, tCons, tNil, tTup, tLst, tCall, tCB, tMake, tFld, sFld, tNoPart, tPart, tSl, tBM, tBM0, rI0, rI, tYes, Cx.nox, Cx.blk, cxOf, List.nil_append, List.cons_append]
    refine ⟨one_le, fun c1 nc1 => ⟨_, rfl, c1, _, _, rfl, rfl, upd_same, by omega, by omega, by simp; exact le_line (by omega), fun ta nta => ?_⟩⟩
    rw [rep_tL]
    have s3 : Same H2 (upd (upd H2 c1 (.lst [.bl false])) ta (.lst (tL n fun _ => false))) := (same_upd nc1).new nta
    have n3 : H2 ta = none := (same_upd (o := .lst [.bl false]) nc1).free nta
    have h3 : upd (upd H2 c1 (.lst [.bl false])) ta (.lst (tL n fun _ => false)) ta = some (.lst (tL n fun _ => false)) := upd_same
    generalize upd (upd H2 c1 (.lst [.bl false])) ta (.lst (tL n fun _ => false)) = H3 at s3 h3
    have ne : ha ≠ ta := ne_of_none hh n3
    have s4 := s2.trans s3
    refine ⟨_, rfl, _, rfl, _, rfl, _, rfl, _, _, _, _, rfl, n, b, g, i, ha, ta, hs, fun _ => false, H, hx, sq, hn, hi, rfl, rfl, rfl, s3 _ _ hh, h3, ne, mt.km, Nat.le_trans (List.length_filter_le _ _) (by simp; exact hn), s4, n1, s2.free n3, fun H4 hs' tr' s5 g1 g2 pt => ?_, fun H4 tr' s5 g1 g2 pf => ?_⟩
    · exact ⟨_, rfl, ifF rfl ⟨⟨_, _, _, _, _, rfl⟩, s5, hs', g1, mt.next pt⟩⟩
    · refine ⟨_, rfl, ifT rfl ?_⟩
      have hol : ∀ c, c < n → tr' c = true → ∃ k, hs c = some k := fun c hc t => let ⟨k, h1, _⟩ := pf.cl c hc t rfl; ⟨k, h1⟩
      refine lcF (B := H4) (feedZL (SqL.of g1) (SqL.of g2)) (fun R r => ⟨_, rfl, _, rfl, ha, ta, _, _, rfl, .inl ⟨SqL.of g1, SqL.of g2, r⟩⟩)
        (fun L j acc H' => Same H4 H' ∧ ∃ ns : List Nat, acc = ns.map vn) (fun L hL => ⟨same_upd hL, [], rfl⟩) (fun _ _ _ _ h => h.1) (fun L j x' acc H5 H6 hL hj hP ha' hle s6 it => ?_) (fun L acc H5 hL hP ha' hle => ?_)
      · obtain ⟨s7, ns, rfl⟩ := hP
        obtain ⟨T', p, r, rfl, e1, e2, e3⟩ := it
        rw [hL_len, tL_len] at hj
        have hj : j < n := by omega
        rw [hL_at hs hj] at e1
        rw [tL_at tr' hj] at e2
        cases e1
        cases e2
        refine gPair e3 ?_
        dsimp only [tVar, tC, tAdd, tSub, tMul, t2I, tCmp, tIsN, tNotN, tB, tAnd, tOr, tNot, tAndV, tOrV, tNotV, tIf, tSeq, tNext, tDrop, tRet, tRetN, tIfS, tAsg, tAug, tPar, gName, gNil, gCons, gSub, tOp, tUn, tTest, tChain, tCons, tNil, tTup, tLst, tCall, tCB, tMake, tFld, sFld, tNoPart, tPart, tSl, tBM, tBM0, rI0, rI, tYes, Cx.nox, Cx.blk, cxOf, List.nil_append, List.cons_append]
        refine ⟨rfl, _, rfl, _, rfl, ?_⟩
        cases t : tr' j with
        | false => exact ifF rfl (LcNx.mk (s6 _ _ ha') hle ⟨s7.trans s6, ns, rfl⟩)
        | true =>
          obtain ⟨k, hk⟩ := hol j hj t
          refine ifT rfl ⟨_, rfl, LcGot.mk (s6 _ _ ha') hle (lt_line (by omega)) ⟨(s7.trans s6).out hL, ns ++ [k], ?_⟩⟩
          rw [List.map_append, hk]
          rfl
      · obtain ⟨s7, ns, rfl⟩ := hP
        rw [hL_len, tL_len] at hle
        simp only [List.length_map] at hle
        refine ⟨_, rfl, one_le, fun c2 nc2 => ⟨_, rfl, c2, L, [.int (i : Nat)], ns.map vn, rfl, rfl, upd_same, ?_, le_line (by simp; omega), fun c3 nc3 => ?_⟩⟩
        · have neL : L ≠ c2 := ne_of_none ha' nc2
          rw [upd_ne neL]
          exact ha'
        have e : [V.int (i : Nat)] ++ ns.map vn = ((i :: ns).map fun k => ((k : Nat) : Int)).map V.int := by
          rw [List.map_map]
          rfl
        rw [e]
        refine ⟨c3, _, rfl, SqL.of upd_same, fun ns' c4 _ _ nc4 => ?_⟩
        refine ⟨c4, _, rfl, .inl ⟨SqL.of upd_same, fun c5 nc5 => ⟨two_le, fun c6 nc6 => ?_⟩⟩⟩
        refine q _ _ _ _ ?_ upd_same (.inl ⟨rfl, fun p => starve mt hi pf p⟩)
        exact ((((((s5.trans s7).new nc2).new nc3).new nc4).new nc5).new nc6)
  · obtain ⟨⟨y3, y4, y5, y6, y7, rfl⟩, s1, hs, hh, mt⟩ := hP
    dsimp only [tVar, tC, tAdd, tSub, tMul, t2I, tCmp, tIsN, tNotN, tB, tAnd, tOr, tNot, tAndV, tOrV, tNotV, tIf, tSeq, tNext, tDrop, tRet, tRetN, tIfS, tAsg, tAug, tPar, gName, gNil, gCons, gSub, tOp, tUn, tTest, tChain, tCons, tNil, tTup, tLst, tCall, tCB, tMake, tFld, sFld, tNoPart, tPart, tSl, tBM, tBM0, rI0, rI, tYes, Cx.nox, Cx.blk, cxOf, List.nil_append, List.cons_append]
    refine lcM (K := K) (H := H1) (f := fun i => nat (colOf n hs i)) (feedR 0 n) (fun R r => ?_) (fun L i x' acc H2 H3 hLL hi hp hl hle s it => ?_) (fun L H2 hLL s hi => ?_)
    · exact ⟨_, rfl, _, _, rfl, hxl s1, _, rfl, by omega, by omega, r⟩
    · subst it
      rw [Int.zero_add]
      have h3 := s _ _ (hp.1 _ _ hh)
      obtain ⟨c, hc, e⟩ := (mt.rows i).mpr hi
      dsimp only [tVar, tC, tAdd, tSub, tMul, t2I, tCmp, tIsN, tNotN, tB, tAnd, tOr, tNot, tAndV, tOrV, tNotV, tIf, tSeq, tNext, tDrop, tRet, tRetN, tIfS, tAsg, tAug, tPar, gName, gNil, gCons, gSub, tOp, tUn, tTest, tChain, tCons, tNil, tTup, tLst, tCall, tCB, tMake, tFld, sFld, tNoPart, tPart, tSl, tBM, tBM0, rI0, rI, tYes, Cx.nox, Cx.blk, cxOf, List.nil_append, List.cons_append]
      refine ⟨rfl, ifT rfl ⟨_, rfl, .inl ⟨rfl, _, SqL.of h3⟩, _, rfl, ha, hL n hs, _, c, _, rfl, rfl, SqL.of h3, rfl, flat_hL n hs, hL_at hs hc, by rw [eq_oV]; exact decide_eq_true e, fun m z hm hz => ?_, ?_⟩⟩
      · rw [hL_at hs (by omega)] at hz
        cases hz
        rw [eq_oV]
        exact decide_eq_false fun z => by have := mt.inj m c i (by omega) hc z e; omega
      · refine hp.got hLL hl s hle (lt_line (by omega)) ?_
        rw [colOf_eq mt hc e]
        exact .int _
    · obtain ⟨zs, hz, iz⟩ := hi
      refine ⟨L, zs, rfl, .inl ⟨SqL.of hz, fun l nl => ⟨two_le, fun p np => ?_⟩⟩⟩
      have hv := Is.mk nl iz
      refine q _ _ _ _ (((s1.trans s).new nl).new np) upd_same (.inr ⟨(List.range n).map (colOf n hs), ?_, mt.pl⟩)
      have e : tn ((List.range n).map (colOf n hs)) = .tuple ((List.range n).map fun i => nat (colOf n hs i)) := by
        unfold tn
        rw [List.map_map]
        rfl
      rw [e]
      exact hv.same (same_upd np)
/-- a placing, or None -/
def sp_raw_placing (K : PySem.W.Frag) : Sp := fun vs H Q _ => ∃ x, vs = [x] ∧ ∃ (n b : Nat) (g : Gd), Is K H x (rws g) ∧ Sq n b g ∧ n ≤ 10 ∧
  ∀ H' v, Same H H' → ((v = .non ∧ ∀ q, ¬ IsP n (Ed n g) q) ∨ ∃ pl, Is K H' v (tn pl) ∧ Pl n g pl) → Q v H'
abbrev n_raw_placing : List Str := ["rows"]
theorem sc_raw_placing : FnScope n_raw_placing ["rows"] (defScope s_raw_placing) := ⟨rfl, rfl, rfl, by decide +kernel, rfl, by decide +kernel, by decide +kernel⟩
theorem ok_raw_placing (T : Txt K mg) : Ok P w K mg base "raw_placing" ["rows"] 13 (sp_raw_placing K) := by
  refine T.x_raw_placing.ok sc_raw_placing (fun _ _ _ _ _ _ us hl => match us, hl with | [_], _ => rfl) (fun vs H Q E h => by obtain ⟨_, rfl, _⟩ := h; rfl) (fun f cdv A outer s H vs Q E hr h => ?_)
  obtain ⟨x, rfl, n, b, g, hx, sq, hn, q⟩ := h
  refine ⟨_, (pss_one (ps_ret (pe_ix ix_tup (pc (ok_placed T) hr rfl (pa_cons (pv 0) (pa_cons (pe_callB call_lenO (by rfl) T.b_len bt_len (pa_cons (pv 0) pa_nil)) pa_nil))) pe_int (fun _ _ => rfl)))), ?_⟩
  dsimp only [tVar, tC, tAdd, tSub, tMul, t2I, tCmp, tIsN, tNotN, tB, tAnd, tOr, tNot, tAndV, tOrV, tNotV, tIf, tSeq, tNext, tDrop, tRet, tRetN, tIfS, tAsg, tAug, tPar, gName, gNil, gCons, gSub, tOp, tUn, tTest, tChain, tCons, tNil, tTup, tLst, tCall, tCB, tMake, tFld, sFld, tNoPart, tPart, tSl, tBM, tBM0, rI0, rI, tYes, Cx.nox, Cx.blk, cxOf, List.nil_append, List.cons_append]
  refine ⟨_, rfl, _, rfl, _, _, rfl, rwsLen hx, _, _, rfl, n, b, g, hx, sq, hn, by rw [sq.num], fun H' p v1 v2 s hp hr => ?_⟩
  exact ⟨p, _, 0, v1, rfl, rfl, SqT.of hp, rfl, q H' v1 s hr⟩
end
end UG
end
section
/-! Unitgrids: the determinant's verdict, two placings that weigh unlike. -/
namespace UG
open PySem PySem.Spec PyProof.Rows L2 RZ UM
/-- what a placing weighs, all exponents -/
def wP (n b : Nat) (g : Gd) (q : Nat → Nat) : Ut := vec b fun k => W n (ex g k) q
/-- all placings alike -/
def Alike (n b : Nat) (g : Gd) (u : Ut) : Prop := ∀ q, IsP n (Ed n g) q → wP n b g q = u
section
variable {P : Program} {w : World} {K : PySem.W.Frag} {mg : Str → Option Value} {base : Heap}
/-- the verdict: no placing, all of one unit, or unlike ones -/
def Verd (K : PySem.W.Frag) (H : Hp) (n b : Nat) (g : Gd) (v : V) : Prop :=
  (v = .str "nought" ∧ ∀ q, ¬ IsP n (Ed n g) q) ∨ (∃ u p, Is K H v (un u) ∧ u.length = b ∧ IsP n (Ed n g) p ∧ wP n b g p = u ∧ Alike n b g u) ∨ (v = .non ∧ (∃ p, IsP n (Ed n g) p) ∧ ∀ u, ¬ Alike n b g u)
def sp_raw_determinant_verdict (K : PySem.W.Frag) : Sp := fun vs H Q _ => ∃ x y, vs = [x, y] ∧ ∃ (n b : Nat) (g : Gd), Is K H x (rws g) ∧ Sq n b g ∧ n ≤ 10 ∧ y = .int (b : Nat) ∧ 1 ≤ b ∧ b ≤ 2 ∧ ∀ H' v, Same H H' → Verd K H' n b g v → Q v H'
abbrev n_raw_determinant_verdict : List Str := ["rows", "bases", "placing"]
theorem sc_raw_determinant_verdict : FnScope n_raw_determinant_verdict ["rows", "bases"] (defScope s_raw_determinant_verdict) := ⟨rfl, rfl, rfl, by decide +kernel, rfl, by decide +kernel, by decide +kernel⟩
theorem ok_raw_determinant_verdict (T : Txt K mg) : Ok P w K mg base "raw_determinant_verdict" ["rows", "bases"] 14 (sp_raw_determinant_verdict K) := by
  refine T.x_raw_determinant_verdict.ok sc_raw_determinant_verdict (fun _ _ _ _ _ _ us hl => match us, hl with | [_, _], _ => rfl) (fun vs H Q E h => by obtain ⟨_, _, rfl, _⟩ := h; rfl) (fun f cdv A outer s H vs Q E hr h => ?_)
  obtain ⟨x, _, rfl, n, b, g, hx, sq, hn, rfl, hb1, hb2, q⟩ := h
  refine ⟨_, (pss_cons (ps_set (i := 2) sc_raw_determinant_verdict.nd rfl (.inl rfl) (pc (ok_raw_placing T) hr rfl (pa_cons (pv 0) pa_nil)))
    (pss_cons (ps_if (pt_cmp (pc_isN (pv 2)))
      (pss_one (ps_ret pe_str))
      pss_nil)
    (pss_cons (ps_if (pt_cmp (pc_isN (pc (ok_ring_heights T) hr rfl (pa_cons (pc (ok_placing_ties T) hr rfl (pa_cons (pv 0) (pa_cons (pv 2) pa_nil))) (pa_cons (pv 1) pa_nil)))))
      (pss_one (ps_ret pe_non))
      pss_nil)
    (pss_one (ps_ret (pc (ok_placing_unit T) hr rfl (pa_cons (pv 0) (pa_cons (pv 2) (pa_cons (pv 1) pa_nil))))))))), ?_⟩
  dsimp only [tVar, tC, tAdd, tSub, tMul, t2I, tCmp, tIsN, tNotN, tB, tAnd, tOr, tNot, tAndV, tOrV, tNotV, tIf, tSeq, tNext, tDrop, tRet, tRetN, tIfS, tAsg, tAug, tPar, gName, gNil, gCons, gSub, tOp, tUn, tTest, tChain, tCons, tNil, tTup, tLst, tCall, tCB, tMake, tFld, sFld, tNoPart, tPart, tSl, tBM, tBM0, rI0, rI, tYes, Cx.nox, Cx.blk, cxOf, List.nil_append, List.cons_append]
  refine ⟨_, rfl, _, rfl, n, b, g, hx, sq, hn, fun H1 v1 s1 h1 => ⟨_, rfl, _, rfl, ?_⟩⟩
  rcases h1 with ⟨rfl, hno⟩ | ⟨p, hp, pl⟩
  · exact ifT rfl (q H1 _ s1 (.inl ⟨rfl, hno⟩))
  · refine ifF (decide_eq_false hp.notNon) ?_
    refine ⟨_, rfl, _, rfl, _, _, rfl, n, b, g, p, hx.same s1, sq, hn, hb2, hp, pl, fun H2 l s2 hl => ?_⟩
    refine ⟨_, rfl, _, _, rfl, l, n, b, mk n (tieC g p), rfl, hl, tie_ok sq pl, hn, rfl, hb1, hb2, fun H3 v3 s3 h3 => ⟨_, rfl, ?_⟩⟩
    rcases h3 with ⟨rfl, hnp⟩ | ⟨hnn, hh⟩
    · refine ifT rfl (q H3 _ ((s1.trans s2).trans s3) (.inr (.inr ⟨rfl, ⟨_, pl.is⟩, fun u ha => hnp (alike_pot sq pl fun k hk q hq => ?_)⟩)))
      have := (ha q hq).trans (ha (pf p) pl.is).symm
      exact vec_iff.mp this k hk
    · refine ifF (decide_eq_false hnn) ?_
      have s4 := (s1.trans s2).trans s3
      refine ⟨_, rfl, _, rfl, _, rfl, _, _, _, rfl, n, b, g, p, hx.same s4, sq, hp.same (s2.trans s3), pl, rfl, hb1, hb2, fun H4 v4 s5 h4 => q H4 v4 (s4.trans s5) (.inr (.inl ⟨_, pf p, h4, vec_len _ _, pl.is, rfl, fun q hq => ?_⟩))⟩
      refine vec_congr fun k hk => ?_
      obtain ⟨h, h5⟩ := hh k hk
      exact h_alike sq pl hk h5 hq
def sp_determinant_verdict (K : PySem.W.Frag) : Sp := fun vs H Q _ => ∃ x, vs = [x] ∧ ∃ (b : Nat) (g : Gd), IsG K H x b g ∧ OkG b g ∧ ∀ H' v, Same H H' → Verd K H' g.length b g v → Q v H'
abbrev n_determinant_verdict : List Str := ["grid"]
theorem sc_determinant_verdict : FnScope n_determinant_verdict ["grid"] (defScope s_determinant_verdict) := ⟨rfl, rfl, rfl, by decide +kernel, rfl, by decide +kernel, by decide +kernel⟩
theorem ok_determinant_verdict (T : Txt K mg) : Ok P w K mg base "determinant_verdict" ["grid"] 15 (sp_determinant_verdict K) := by
  refine T.x_determinant_verdict.ok sc_determinant_verdict (fun _ _ _ _ _ _ us hl => match us, hl with | [_], _ => rfl) (fun vs H Q E h => by obtain ⟨_, rfl, _⟩ := h; rfl) (fun f cdv A outer s H vs Q E hr h => ?_)
  obtain ⟨_, rfl, b, g, hg, ok, q⟩ := h
  refine ⟨_, (pss_cons (ps_expr (pc (ok_check_square_grid T) hr rfl (pa_cons (pv 0) pa_nil)))
    (pss_one (ps_ret (pc (ok_raw_determinant_verdict T) hr rfl (pa_cons (pe_fld (pv 0) rfl) (pa_cons (pe_fld (pv 0) rfl) pa_nil)))))), ?_⟩
  dsimp only [tVar, tC, tAdd, tSub, tMul, t2I, tCmp, tIsN, tNotN, tB, tAnd, tOr, tNot, tAndV, tOrV, tNotV, tIf, tSeq, tNext, tDrop, tRet, tRetN, tIfS, tAsg, tAug, tPar, gName, gNil, gCons, gSub, tOp, tUn, tTest, tChain, tCons, tNil, tTup, tLst, tCall, tCB, tMake, tFld, sFld, tNoPart, tPart, tSl, tBM, tBM0, rI0, rI, tYes, Cx.nox, Cx.blk, cxOf, List.nil_append, List.cons_append]
  obtain ⟨a, dx, r, rfl, hp, hr0⟩ := id hg
  refine ⟨_, rfl, _, rfl, b, g, hg, ok, ?_⟩
  refine ⟨_, rfl, a, _, dx, _, _, rfl, hp, T.cls, T.nRows, rfl, _, rfl, a, _, dx, _, _, rfl, hp, T.cls, T.nBases, rfl, ?_⟩
  exact ⟨_, _, rfl, g.length, b, g, hr0, ok.sqr, ok.n2, rfl, ok.b1, ok.b2, q⟩
def sp_two_placings (K : PySem.W.Frag) : Sp := fun vs H Q _ => ∃ x, vs = [x] ∧ ∃ (b : Nat) (g : Gd), IsG K H x b g ∧ OkG b g ∧ (∃ p, IsP g.length (Ed g.length g) p) ∧ (∀ u, ¬ Alike g.length b g u) ∧
  ∀ H' v p1 p2, Same H H' → Is K H' v (.tuple [tn p1, tn p2]) → Pl g.length g p1 → Pl g.length g p2 → wP g.length b g (pf p1) ≠ wP g.length b g (pf p2) → Q v H'
theorem nxt_getD {r : List Nat} (hn : r.Nodup) {i x : Nat} (h : r[i]? = some x) : r[(i + 1) % r.length]? = some (nxt r x) := by
  have hl : 0 < r.length := by
    have := (List.getElem?_eq_some_iff.mp h).1
    omega
  have hm : (i + 1) % r.length < r.length := Nat.mod_lt _ hl
  rw [nxt_at hn h, List.getD_eq_getElem?_getD, List.getElem?_eq_getElem hm]
  rfl
abbrev n_two_placings : List Str := ["grid", "placing", "ring", "other", "at", "row"]
theorem sc_two_placings : FnScope n_two_placings ["grid"] (defScope s_two_placings) := ⟨rfl, rfl, rfl, by decide +kernel, rfl, by decide +kernel, by decide +kernel⟩
theorem ok_two_placings (T : Txt K mg) : Ok P w K mg base "two_placings" ["grid"] 16 (sp_two_placings K) := by
  refine T.x_two_placings.ok sc_two_placings (fun _ _ _ _ _ _ us hl => match us, hl with | [_], _ => rfl) (fun vs H Q E h => by obtain ⟨_, rfl, _⟩ := h; rfl) (fun f cdv A outer s H vs Q E hr h => ?_)
  obtain ⟨_, rfl, b, g, hg, ok, ⟨p0, hp0⟩, hna, q⟩ := h
  obtain ⟨a, dx, r0, rfl, hpa, hr0⟩ := id hg
  have sq := ok.sqr
  have hn := ok.n2
  generalize hN : g.length = n at *
  refine ⟨_, (pss_cons (ps_expr (pc (ok_check_square_grid T) hr rfl (pa_cons (pv 0) pa_nil)))
    (pss_cons (ps_set (i := 1) sc_two_placings.nd rfl (.inl rfl) (pc (ok_raw_placing T) hr rfl (pa_cons (pe_fld (pv 0) rfl) pa_nil)))
    (pss_cons (ps_if (pt_cmp (pc_isN (pv 1)))
      (pss_one (ps_ret pe_non))
      pss_nil)
    (pss_cons (ps_set (i := 2) sc_two_placings.nd rfl (.inl rfl) (pc (ok_heavy_ring T) hr rfl (pa_cons (pc (ok_placing_ties T) hr rfl (pa_cons (pe_fld (pv 0) rfl) (pa_cons (pv 1) pa_nil))) (pa_cons (pe_fld (pv 0) rfl) pa_nil))))
    (pss_cons (ps_if (pt_cmp (pc_isN (pv 2)))
      (pss_one (ps_ret pe_non))
      pss_nil)
    (pss_cons (ps_set (i := 3) sc_two_placings.nd rfl (.inl rfl) (pe_callTy call_list_of (by rfl) T.b_list bt_list (pa_cons (pv 1) pa_nil)))
    (pss_cons (ps_for PassesOwn.never rfl (pi_enumT rfl T.b_enumerate (pa_cons (pv 2) pa_nil)) (by refine pg2 (i := 4) (j := 5) K rfl sc_two_placings.nd ?_ ?_ ?_ ?_ ?_ ?_ ?_ <;> first | rfl | exact .inl rfl | exact .inr rfl)
      (pss_one (ps_asg (pe_ix ix_tup (pv 1) (pe_ix ix_tup (pv 2) (pe_op op_mod (pe_op op_add (pv 4) pe_int) (pe_callB call_lenO (by rfl) T.b_len bt_len (pa_cons (pv 2) pa_nil))) (fun _ _ => rfl)) (fun _ _ => rfl)) (pg_sub (pv 3) (pv 5) set_list))))
    (pss_one (ps_ret (pe_tup (pa_cons (pv 1) (pa_cons (pe_callTy call_tuple_of (by rfl) T.b_tuple bt_tuple (pa_cons (pv 3) pa_nil)) pa_nil)))))))))))), ?_⟩
  dsimp only [tVar, tC, tAdd, tSub, tMul, t2I, tCmp, tIsN, tNotN, tB, tAnd, tOr, tNot, tAndV, tOrV, tNotV, tIf, tSeq, tNext, tDrop, tRet, tRetN, tIfS, tAsg, tAug, tPar, gName, gNil, gCons, gSub, tOp, tUn, tTest, tChain, tCons, tNil, tTup, tLst, tCall, tCB, tMake, tFld, sFld, tNoPart, tPart, tSl, tBM, tBM0, rI0, rI, tYes, Cx.nox, Cx.blk, cxOf, List.nil_append, List.cons_append]
  refine ⟨_, rfl, _, rfl, b, g, hg, ok, ?_⟩
  refine ⟨_, rfl, a, _, dx, _, _, rfl, hpa, T.cls, T.nRows, rfl, _, rfl, n, b, g, hr0, sq, hn, fun H1 v1 s1 h1 => ⟨_, rfl, _, rfl, ?_⟩⟩
  rcases h1 with ⟨rfl, hno⟩ | ⟨p, hp, pl⟩
  · exact absurd hp0 (hno p0)
  · refine ifF (decide_eq_false hp.notNon) ?_
    have hpa1 := s1 _ _ hpa
    refine ⟨_, rfl, a, _, dx, _, _, rfl, hpa1, T.cls, T.nRows, rfl, _, rfl, _, _, rfl, n, b, g, p, hr0.same s1, sq, hn, ok.b2, hp, pl, fun H2 l s2 hl => ?_⟩
    refine ⟨_, rfl, a, _, dx, _, _, rfl, s2 _ _ hpa1, T.cls, T.nBases, rfl, _, _, rfl, l, n, b, mk n (tieC g p), rfl, hl, tie_ok sq pl, hn, rfl, ok.b1, ok.b2, fun H3 v3 s3 h3 => ⟨_, rfl, _, rfl, ?_⟩⟩
    rcases h3 with ⟨rfl, hpot⟩ | ⟨r, hr, hrg, k, hk, hne⟩
    · exact absurd (fun q hq => vec_congr fun k hk => pot_alike sq pl hpot hk hq) (hna (wP n b g (pf p)))
    · refine ifF (decide_eq_false hr.notNon) ?_
      obtain ⟨t1, t2⟩ := heavy_turn sq pl hk hrg hne
      obtain ⟨ap, xp, rfl, hxp, hxa⟩ := hp.tup_ex
      obtain ⟨ar, xr, rfl, hxr, hra⟩ := hr.tup_ex
      have exp_ := hxa.nats_eq
      have exr := hra.nats_eq
      have s4 := s2.trans s3
      have hxp3 := SqT.same s4 hxp
      have hpl := pl.len
      have hrl : r.length ≤ n := ring_len hrg
      refine ⟨_, rfl, ap, xp, rfl, .inr hxp3, fun lo nlo => ?_⟩
      have s5 : Same H3 (upd H3 lo (.lst xp)) := same_upd nlo
      have hlo : upd H3 lo (.lst xp) lo = some (.lst ((List.range n).map fun x => vn (pf p x))) := by
        rw [upd_same, exp_]
        congr 2
        apply List.ext_getElem?
        intro i
        by_cases hi : i < n
        · rw [List.getElem?_map, List.getElem?_map, List.getElem?_range hi, List.getElem?_eq_getElem (by omega)]
          unfold pf
          rw [Option.map_some, Option.map_some, List.getD_eq_getElem?_getD, List.getElem?_eq_getElem (by omega)]
          rfl
        · rw [List.getElem?_eq_none_iff.mpr (by simp; omega), List.getElem?_eq_none_iff.mpr (by simp; omega)]
      generalize upd H3 lo (.lst xp) = H4 at s5 hlo
      have hxrl : xr.length = r.length := by rw [exr, List.length_map]
      refine forF (B := H3) (feedET hxr) (fun R k => ⟨_, rfl, ar, xr, rfl, SqT.same s5 hxr, k⟩)
        (fun i σ H' => (∃ y4 y5, σ = [some (.ref a), some (.ref ap), some (.ref ar), some (.ref lo), y4, y5]) ∧ Same H3 H' ∧ H' lo = some (.lst ((List.range n).map fun x => vn (if x ∈ r.take i then pf p (nxt r x) else pf p x))))
        ⟨⟨_, _, rfl⟩, s5, hlo⟩ (fun _ _ _ h => h.2.1) (fun i x σ H5 H6 hi hP s it => ?_) (fun σ H5 hP => ?_)
      · obtain ⟨⟨y4, y5, rfl⟩, s6, hl6⟩ := hP
        obtain ⟨T', v, rfl, e1, e2⟩ := it
        obtain ⟨x, hx, rfl⟩ := nat_get hra e1
        have s7 := s6.trans s
        have hl6 := s _ _ hl6
        have hxr2 := nxt_getD hrg.nd hx
        have hxm : x ∈ r := List.mem_of_getElem? hx
        have hxn : x < n := (ring_edge hrg hxm).1
        have hnn : nxt r x < n := (ring_edge hrg hxm).2.1
        have hrpos : 0 < r.length := by omega
        refine gPair e2 ?_
        dsimp only [tVar, tC, tAdd, tSub, tMul, t2I, tCmp, tIsN, tNotN, tB, tAnd, tOr, tNot, tAndV, tOrV, tNotV, tIf, tSeq, tNext, tDrop, tRet, tRetN, tIfS, tAsg, tAug, tPar, gName, gNil, gCons, gSub, tOp, tUn, tTest, tChain, tCons, tNil, tTup, tLst, tCall, tCB, tMake, tFld, sFld, tNoPart, tPart, tSl, tBM, tBM0, rI0, rI, tYes, Cx.nox, Cx.blk, cxOf, List.nil_append, List.cons_append]
        refine ⟨_, rfl, _, rfl, _, rfl, _, _, rfl, rfl, _, rfl, _, _, rfl, LenO.t (SqT.same s7 hxr), _, _, rfl, rfl, by omega, ?_⟩
        have em : (((i : Nat) : Int) + 1) % ((xr.length : Nat) : Int) = (((i + 1) % r.length : Nat) : Int) := by rw [hxrl]; simp
        rw [em]
        refine ⟨ar, xr, _, _, rfl, rfl, SqT.same s7 hxr, atI_nat (by rw [exr, List.getElem?_map, hxr2]; rfl), ?_⟩
        refine ⟨ap, xp, _, _, rfl, rfl, SqT.same s7 hxp3, atI_nat (v := vn (pf p (nxt r x))) (by rw [exp_, List.getElem?_map, List.getElem?_eq_getElem (by omega)]; unfold pf; rw [List.getD_eq_getElem?_getD, List.getElem?_eq_getElem (by omega)]; rfl), ?_⟩
        refine ⟨_, rfl, _, rfl, lo, _, _, x, rfl, rfl, hl6, ixN_nat (by simp; exact hxn), ⟨_, _, rfl⟩, s7.out nlo, ?_⟩
        rw [upd_same, range_set _ _ hxn]
        congr 2
        refine range_congr fun z hz => ?_
        rw [take_succ hx]
        by_cases ez : z = x
        · rw [if_pos ez, if_pos (by rw [ez]; simp), ez]
        · rw [if_neg ez]
          have : z ∈ r.take i ++ [x] ↔ z ∈ r.take i := by simp [ez]
          by_cases hz2 : z ∈ r.take i
          · rw [if_pos hz2, if_pos (this.mpr hz2)]
          · rw [if_neg hz2, if_neg fun y => hz2 (this.mp y)]
      · obtain ⟨⟨y4, y5, rfl⟩, s6, hl6⟩ := hP
        rw [hxrl, List.take_length] at hl6
        refine ⟨_, rfl, _, rfl, lo, _, rfl, .inl ⟨SqL.of hl6, fun tp ntp => ⟨two_le, fun p2 np2 => ?_⟩⟩⟩
        have s8 : Same H3 (upd (upd H5 tp (.tup ((List.range n).map fun x => vn (if x ∈ r then pf p (nxt r x) else pf p x)))) p2 (.tup [.ref ap, .ref tp])) := (s6.new ntp).new np2
        have epl : Pl n g ((List.range n).map (turnP (pf p) r)) := by
          have at_ : ∀ i, i < n → ((List.range n).map (turnP (pf p) r)).getD i 0 = turnP (pf p) r i := fun i hi => by
            rw [List.getD_eq_getElem?_getD, List.getElem?_map, List.getElem?_range hi]
            rfl
          refine ⟨by simp, ⟨⟨fun i hi => ?_, fun i j hi hj e => ?_⟩, fun i hi => ?_⟩⟩
          · show _ < n
            simp only [at_ i hi]
            exact t1.lt i hi
          · simp only [at_ i hi, at_ j hj] at e
            exact t1.inj i j hi hj e
          · show Ed n g i (((List.range n).map (turnP (pf p) r)).getD i 0)
            rw [at_ i hi]
            exact t1.at_ i hi
        refine q _ _ p ((List.range n).map (turnP (pf p) r)) ((s1.trans s4).trans s8) ?_ pl epl ?_
        · refine Is.mk np2 (.cons ((hp.same (s4.trans s6)).same (same_upd ntp)) (.cons ?_ .nil))
          have e : tn ((List.range n).map (turnP (pf p) r)) = .tuple (((List.range n).map (turnP (pf p) r)).map nat) := rfl
          rw [e]
          have e2 : ((List.range n).map fun x => vn (if x ∈ r then pf p (nxt r x) else pf p x)) = ((List.range n).map (turnP (pf p) r)).map vn := by
            rw [List.map_map]
            rfl
          rw [e2]
          exact Is.mk ntp (IsA.nats _)
        · intro z
          have h1 := vec_iff.mp z k hk
          have h2 : W n (ex g k) (pf ((List.range n).map (turnP (pf p) r))) = W n (ex g k) (turnP (pf p) r) := by
            unfold W
            refine sm_congr n fun i hi => ?_
            show ex g k i (((List.range n).map (turnP (pf p) r)).getD i 0) = _
            rw [List.getD_eq_getElem?_getD, List.getElem?_map, List.getElem?_range hi]
            rfl
          rw [h2] at h1
          exact t2 h1.symm
end
end UG
end
section
set_option autoImplicit false
/-! Unitgrids: lots of cells, the least of the smallest that are enough. No program here. -/
namespace UL
abbrev C := Int × Int
def clt (p q : C) : Prop := p.1 < q.1 ∨ (p.1 = q.1 ∧ p.2 < q.2)
instance (p q : C) : Decidable (clt p q) := by unfold clt; infer_instance
theorem clt_irr (p : C) : ¬ clt p p := by unfold clt; omega
theorem clt_trans {p q r : C} (h : clt p q) (k : clt q r) : clt p r := by unfold clt at *; omega
theorem clt_tri (p q : C) : clt p q ∨ p = q ∨ clt q p := by
  obtain ⟨a, b⟩ := p
  obtain ⟨c, d⟩ := q
  unfold clt
  simp only [Prod.mk.injEq]
  omega
/-- lots: the first difference, else the shorter -/
def llt : List C → List C → Prop
  | _, [] => False
  | [], _ :: _ => True
  | x :: xs, y :: ys => clt x y ∨ (x = y ∧ llt xs ys)
theorem llt_irr : ∀ l : List C, ¬ llt l l
  | [] => id
  | x :: l => fun h => by
    rcases h with h | ⟨_, h⟩
    · exact clt_irr x h
    · exact llt_irr l h
theorem llt_trans : ∀ {a b c : List C}, llt a b → llt b c → llt a c
  | [], [], _, h, _ => h.elim
  | _, _ :: _, [], _, k => k.elim
  | x :: _, [], _, h, _ => h.elim
  | [], _ :: _, _ :: _, _, _ => trivial
  | x :: xs, y :: ys, z :: zs, h, k => by
    rcases h with h | ⟨rfl, h⟩
    · rcases k with k | ⟨rfl, k⟩
      · exact .inl (clt_trans h k)
      · exact .inl h
    · rcases k with k | ⟨rfl, k⟩
      · exact .inl k
      · exact .inr ⟨rfl, llt_trans h k⟩
theorem llt_tri : ∀ (a b : List C), llt a b ∨ a = b ∨ llt b a
  | [], [] => .inr (.inl rfl)
  | [], _ :: _ => .inl trivial
  | _ :: _, [] => .inr (.inr trivial)
  | x :: xs, y :: ys => by
    rcases clt_tri x y with h | rfl | h
    · exact .inl (.inl h)
    · rcases llt_tri xs ys with h | rfl | h
      · exact .inl (.inr ⟨rfl, h⟩)
      · exact .inr (.inl rfl)
      · exact .inr (.inr (.inr ⟨rfl, h⟩))
    · exact .inr (.inr (.inl h))
/-- ascending -/
abbrev Asc (l : List C) : Prop := l.Pairwise clt
theorem asc_nodup {l : List C} (h : Asc l) : l.Nodup := List.Pairwise.imp (fun {a b} (k : clt a b) (e : a = b) => clt_irr b (by rw [e] at k; exact k)) h
/-- ascending lists of the same things are one -/
theorem asc_ext : ∀ {a b : List C}, Asc a → Asc b → (∀ x, x ∈ a ↔ x ∈ b) → a = b
  | [], [], _, _, _ => rfl
  | [], y :: b, _, _, h => absurd ((h y).mpr List.mem_cons_self) (by simp)
  | x :: a, [], _, _, h => absurd ((h x).mp List.mem_cons_self) (by simp)
  | x :: a, y :: b, ha, hb, h => by
    have ha' := List.pairwise_cons.mp ha
    have hb' := List.pairwise_cons.mp hb
    have e : x = y := by
      rcases List.mem_cons.mp ((h x).mp List.mem_cons_self) with e | e
      · exact e
      · rcases List.mem_cons.mp ((h y).mpr List.mem_cons_self) with e2 | e2
        · exact e2.symm
        · exact absurd (clt_trans (ha'.1 y e2) (hb'.1 x e)) (clt_irr x)
    subst e
    rw [asc_ext ha'.2 hb'.2 fun z => ?_]
    constructor
    · intro hz
      rcases List.mem_cons.mp ((h z).mp (List.mem_cons_of_mem _ hz)) with e | e
      · exact absurd (e ▸ ha'.1 z hz) (clt_irr x)
      · exact e
    · intro hz
      rcases List.mem_cons.mp ((h z).mpr (List.mem_cons_of_mem _ hz)) with e | e
      · exact absurd (e ▸ hb'.1 z hz) (clt_irr x)
      · exact e
/-- what lots are about: placings, each the list of its cells, with what it weighs -/
structure Fam where
  U : Type
  F : List C → U → Prop
def avoids (l S : List C) : Prop := ∀ x ∈ l, x ∉ S
/-- without the cells of S placings are left, all of one unit -/
def enough (f : Fam) (S : List C) : Prop := (∃ l u, f.F l u ∧ avoids l S) ∧ ∀ l u l' u', f.F l u → f.F l' u' → avoids l S → avoids l' S → u = u'
def live (f : Fam) (x : C) : Prop := ∃ l u, f.F l u ∧ x ∈ l
structure Lot (f : Fam) (S : List C) : Prop where
  asc : Asc S
  live : ∀ x ∈ S, live f x
/-- what is asked: of the smallest lots (of at most so many cells) that are enough the least, or none -/
def Due (f : Fam) (most : Nat) : Option (List C) → Prop
  | none => ∀ S, Lot f S → S.length ≤ most → ¬ enough f S
  | some S => Lot f S ∧ S.length ≤ most ∧ enough f S ∧ ∀ S', Lot f S' → enough f S' → S.length ≤ S'.length ∧ (S'.length = S.length → ¬ llt S' S)
theorem Due.one {f : Fam} {most : Nat} {r r' : Option (List C)} (h : Due f most r) (h' : Due f most r') : r = r' := by
  cases r with
  | none =>
    cases r' with
    | none => rfl
    | some S => exact absurd h'.2.2.1 (h S h'.1 h'.2.1)
  | some S =>
    cases r' with
    | none => exact absurd h.2.2.1 (h' S h.1 h.2.1)
    | some S' =>
      have h1 := h.2.2.2 S' h'.1 h'.2.2.1
      have h2 := h'.2.2.2 S h.1 h.2.2.1
      have e : S.length = S'.length := by omega
      rcases llt_tri S S' with k | k | k
      · exact absurd k (h2.2 e)
      · rw [k]
      · exact absurd k (h1.2 e.symm)
/-- with more let, the same -/
theorem Due.more {f : Fam} {most more : Nat} {S : List C} (h : Due f most (some S)) (k : most ≤ more) : Due f more (some S) := ⟨h.1, Nat.le_trans h.2.1 k, h.2.2⟩
/-! ### the program's way: layers -/
/-- what a look at a lot tells -/
inductive Look (f : Fam) (S : List C) : Bool → List C → Prop
  | yes : enough f S → Look f S true []
  | nought : (∀ l u, f.F l u → ¬ avoids l S) → Look f S false []
  | two {l l' : List C} {u u' : f.U} : f.F l u → f.F l' u' → avoids l S → avoids l' S → u ≠ u' → Look f S false (l ++ l')
/-- the lots of size k that are looked at -/
structure Layer (f : Fam) (k : Nat) (L : List (List C)) : Prop where
  lot : ∀ S ∈ L, Lot f S ∧ S.length = k
  small : ∀ S, Lot f S → enough f S → k ≤ S.length
  all : ∀ S, Lot f S → enough f S → (∀ S', Lot f S' → enough f S' → S.length ≤ S'.length) → ∃ T ∈ L, ∀ x ∈ T, x ∈ S
theorem layer0 (f : Fam) : Layer f 0 [[]] where
  lot S hS := by rw [List.mem_singleton] at hS; subst hS; exact ⟨⟨List.Pairwise.nil, by simp⟩, rfl⟩
  small S _ _ := Nat.zero_le _
  all S _ _ _ := ⟨[], by simp, by simp⟩
theorem asc_sub_len {a b : List C} (ha : Asc a) (hs : ∀ x ∈ a, x ∈ b) : a.length ≤ b.length := by
  have : ∀ (l D : List C), l.Nodup → (∀ x ∈ l, x ∈ D) → l.length ≤ D.length := by
    intro l
    induction l with
    | nil => intros; exact Nat.zero_le _
    | cons x l ih =>
      intro D hn hs
      have hn' := List.nodup_cons.mp hn
      have hx : x ∈ D := hs x List.mem_cons_self
      have := ih (D.erase x) hn'.2 (fun y hy => by
        have hne : y ≠ x := fun e => hn'.1 (e ▸ hy)
        exact (List.mem_erase_of_ne hne).mpr (hs y (List.mem_cons_of_mem _ hy)))
      rw [List.length_erase_of_mem hx] at this
      have : 0 < D.length := List.length_pos_of_mem hx
      simp only [List.length_cons]
      omega
  exact this a b (asc_nodup ha) hs
theorem asc_eq_of_sub {a b : List C} (ha : Asc a) (hb : Asc b) (hs : ∀ x ∈ a, x ∈ b) (hl : b.length ≤ a.length) : a = b := by
  refine asc_ext ha hb fun x => ⟨hs x, fun hx => ?_⟩
  refine Classical.byContradiction fun hc => ?_
  have hn : ∀ y ∈ a, y ∈ b.erase x := fun y hy => (List.mem_erase_of_ne (fun (e : y = x) => hc (by rw [e] at hy; exact hy))).mpr (hs y hy)
  have := asc_sub_len ha hn
  rw [List.length_erase_of_mem hx] at this
  have : 0 < b.length := List.length_pos_of_mem hx
  omega
/-- an enough lot of the layer's size stands in the layer -/
theorem Layer.here {f : Fam} {k : Nat} {L : List (List C)} (h : Layer f k L) {S : List C} (hS : Lot f S) (he : enough f S) (hk : S.length = k) : S ∈ L := by
  obtain ⟨T, hT, hs⟩ := h.all S hS he fun S' h1 h2 => by rw [hk]; exact h.small S' h1 h2
  have := h.lot T hT
  rw [← asc_eq_of_sub this.1.asc hS.asc hs (by omega)]
  exact hT
/-- one of the layer is enough: the least such is due -/
theorem Layer.done {f : Fam} {k most : Nat} {L : List (List C)} (h : Layer f k L) (hk : k ≤ most) {S : List C} (hS : S ∈ L) (he : enough f S) (hm : ∀ S' ∈ L, enough f S' → ¬ llt S' S) : Due f most (some S) := by
  have hl := h.lot S hS
  refine ⟨hl.1, by omega, he, fun S' h1 h2 => ⟨?_, fun e => hm S' (h.here h1 h2 (by omega)) h2⟩⟩
  have := h.small S' h1 h2
  omega
/-- none is: the next layer -/
theorem Layer.next {f : Fam} {k : Nat} {L L' : List (List C)} (h : Layer f k L) (hn : ∀ S ∈ L, ¬ enough f S) {look : List C → List C} (hlook : ∀ S ∈ L, ∃ b, Look f S b (look S))
    (h' : ∀ T, T ∈ L' ↔ ∃ S ∈ L, ∃ x ∈ look S, Asc T ∧ T.Perm (S ++ [x])) : Layer f (k + 1) L' := by
  have out : ∀ S ∈ L, ∀ x ∈ look S, live f x ∧ x ∉ S := fun S hS x hx => by
    obtain ⟨b, hb⟩ := hlook S hS
    generalize look S = cs at hb hx
    cases hb with
    | yes e => simp at hx
    | nought e => simp at hx
    | two h1 h2 a1 a2 ne =>
      rcases List.mem_append.mp hx with hx | hx
      · exact ⟨⟨_, _, h1, hx⟩, a1 x hx⟩
      · exact ⟨⟨_, _, h2, hx⟩, a2 x hx⟩
  have big : ∀ S, Lot f S → enough f S → k + 1 ≤ S.length := fun S h1 h2 => by
    have := h.small S h1 h2
    rcases Nat.lt_or_eq_of_le this with q | q
    · exact q
    · exact absurd h2 (hn S (h.here h1 h2 q.symm))
  refine ⟨fun T hT => ?_, big, fun S h1 h2 h3 => ?_⟩
  · obtain ⟨S, hS, x, hx, ha, hp⟩ := (h' T).mp hT
    have hl := h.lot S hS
    refine ⟨⟨ha, fun y hy => ?_⟩, by rw [hp.length_eq]; simp [hl.2]⟩
    rcases List.mem_append.mp (hp.mem_iff.mp hy) with q | q
    · exact hl.1.live y q
    · rw [List.mem_singleton] at q
      subst q
      exact (out S hS _ hx).1
  · obtain ⟨T, hT, hs⟩ := h.all S h1 h2 h3
    have hl := h.lot T hT
    obtain ⟨b, hb⟩ := hlook T hT
    have avo : ∀ l, avoids l S → avoids l T := fun l a x hx q => a x hx (hs x q)
    have : ∃ x ∈ look T, x ∈ S := by
      generalize look T = cs at hb ⊢
      cases hb with
      | yes e => exact absurd e (hn T hT)
      | nought e =>
        obtain ⟨⟨l, u, q1, q2⟩, _⟩ := h2
        exact absurd (avo l q2) (e l u q1)
      | @two l l' u u' q1 q2 a1 a2 ne =>
        refine Classical.byContradiction fun hc => ne ?_
        refine h2.2 l u l' u' q1 q2 (fun x hx q => hc ⟨x, List.mem_append_left _ hx, q⟩) (fun x hx q => hc ⟨x, List.mem_append_right _ hx, q⟩)
    obtain ⟨x, hx, hxS⟩ := this
    -- the lot with x more, ascending: S without what is not in it
    let T' := S.filter fun y => decide (y ∈ T ∨ y = x)
    have hp : T'.Perm (T ++ [x]) := by
      refine (List.perm_ext_iff_of_nodup ((asc_nodup h1.asc).filter _) ?_).mpr fun y => ?_
      · refine List.nodup_append.mpr ⟨asc_nodup hl.1.asc, by simp, fun a ha b hb e => ?_⟩
        rw [List.mem_singleton] at hb
        subst hb
        exact (out T hT _ hx).2 (e ▸ ha)
      · simp only [T', List.mem_filter, List.mem_append, List.mem_singleton, decide_eq_true_eq]
        constructor
        · exact fun q => q.2
        · intro q
          refine ⟨?_, q⟩
          rcases q with q | rfl
          · exact hs y q
          · exact hxS
    refine ⟨T', (h' T').mpr ⟨T, hT, x, hx, List.Pairwise.filter _ h1.asc, hp⟩, fun y hy => (List.mem_filter.mp hy).1⟩
/-- no layer is left -/
theorem Layer.none {f : Fam} {k most : Nat} {L : List (List C)} (h : Layer f k L) (hk : most < k) : Due f most none := fun S h1 h2 h3 => by
  have := h.small S h1 h3
  omega
/-! ### the law's way: all lots in order -/
/-- a cell behind the last one of a lot -/
def fits (S : List C) (c : C) : Bool := match S.getLast? with
  | none => true
  | some z => decide (clt z c)
theorem fits_iff {S : List C} {c : C} : fits S c = true ↔ ∀ z, S.getLast? = some z → clt z c := by
  unfold fits
  cases S.getLast? with
  | none => simp
  | some z => simp
/-- all lots of k of the cells -/
def lots (cells : List C) : Nat → List (List C)
  | 0 => [[]]
  | k + 1 => (lots cells k).flatMap fun S => (cells.filter (fits S)).map fun c => S ++ [c]
theorem asc_snoc {S : List C} {c : C} : Asc (S ++ [c]) ↔ Asc S ∧ ∀ z, S.getLast? = some z → clt z c := by
  show List.Pairwise clt (S ++ [c]) ↔ List.Pairwise clt S ∧ _
  rw [List.pairwise_append]
  constructor
  · intro h
    refine ⟨h.1, fun z hz => h.2.2 z (List.mem_of_getLast? hz) c (by simp)⟩
  · intro h
    refine ⟨h.1, by simp, fun a ha b hb => ?_⟩
    rw [List.mem_singleton] at hb
    subst hb
    rcases List.eq_nil_or_concat S with rfl | ⟨S', z, rfl⟩
    · simp at ha
    · rw [List.concat_eq_append] at h ha
      have hz := h.2 z (by simp)
      rcases List.mem_append.mp ha with q | q
      · exact clt_trans ((List.pairwise_append.mp h.1).2.2 a q z (by simp)) hz
      · rw [List.mem_singleton] at q
        subst q
        exact hz
theorem mem_lots {cells : List C} : ∀ {k : Nat} {S : List C}, S ∈ lots cells k ↔ S.length = k ∧ Asc S ∧ ∀ x ∈ S, x ∈ cells
  | 0, S => by
    simp only [lots, List.mem_singleton]
    constructor
    · rintro rfl; simp
    · intro h; exact List.eq_nil_of_length_eq_zero h.1
  | k + 1, S => by
    simp only [lots, List.mem_flatMap, List.mem_map, List.mem_filter, fits_iff]
    constructor
    · rintro ⟨T, hT, c, ⟨hc, hz⟩, rfl⟩
      have := mem_lots.mp hT
      refine ⟨by simp [this.1], asc_snoc.mpr ⟨this.2.1, hz⟩, fun x hx => ?_⟩
      rcases List.mem_append.mp hx with q | q
      · exact this.2.2 x q
      · rw [List.mem_singleton] at q; subst q; exact hc
    · intro h
      rcases List.eq_nil_or_concat S with rfl | ⟨T, c, rfl⟩
      · simp at h
      · rw [List.concat_eq_append] at h
        have h2 := asc_snoc.mp h.2.1
        have h1 := h.1
        simp at h1
        exact ⟨T, mem_lots.mpr ⟨h1, h2.1, fun x hx => h.2.2 x (by simp [hx])⟩, c, ⟨h.2.2 c (by simp), h2.2⟩, (List.concat_eq_append).symm⟩
theorem llt_app {S T : List C} {a b : C} : ∀ (h : S.length = T.length), llt S T → llt (S ++ [a]) (T ++ [b]) := by
  induction S generalizing T with
  | nil =>
    intro h k
    cases T with
    | nil => exact k.elim
    | cons y T => simp at h
  | cons x S ih =>
    intro h k
    cases T with
    | nil => exact k.elim
    | cons y T =>
      rcases k with k | ⟨rfl, k⟩
      · exact .inl k
      · exact .inr ⟨rfl, ih (by simpa using h) k⟩
theorem llt_last {a b : C} (h : clt a b) : ∀ S : List C, llt (S ++ [a]) (S ++ [b])
  | [] => .inl h
  | x :: S => .inr ⟨rfl, llt_last h S⟩
theorem lots_sorted {cells : List C} (hc : Asc cells) : ∀ k, (lots cells k).Pairwise llt
  | 0 => by simp [lots]
  | k + 1 => by
    have ih := lots_sorted hc k
    have hl : ∀ S ∈ lots cells k, S.length = k := fun S hS => (mem_lots.mp hS).1
    show ((lots cells k).flatMap _).Pairwise llt
    generalize lots cells k = L at ih hl
    induction L with
    | nil => simp
    | cons S L ih2 =>
      have ih' := List.pairwise_cons.mp ih
      rw [List.flatMap_cons, List.pairwise_append]
      refine ⟨?_, ih2 ih'.2 fun T hT => hl T (List.mem_cons_of_mem _ hT), fun a ha b hb => ?_⟩
      · rw [List.pairwise_map]
        exact List.Pairwise.imp (fun {a b} h => llt_last h S) (List.Pairwise.filter _ hc)
      · obtain ⟨c, _, rfl⟩ := List.mem_map.mp ha
        obtain ⟨T, hT, hb⟩ := List.mem_flatMap.mp hb
        obtain ⟨d, _, rfl⟩ := List.mem_map.mp hb
        exact llt_app (by rw [hl S List.mem_cons_self, hl T (List.mem_cons_of_mem _ hT)]) (ih'.1 T hT)
/-- those of at most m of the cells, the smaller ones first -/
def lotsTo (cells : List C) : Nat → List (List C)
  | 0 => lots cells 0
  | m + 1 => lotsTo cells m ++ lots cells (m + 1)
theorem mem_lotsTo {cells : List C} {S : List C} : ∀ {m : Nat}, S ∈ lotsTo cells m ↔ S.length ≤ m ∧ Asc S ∧ ∀ x ∈ S, x ∈ cells
  | 0 => by
    show S ∈ lots cells 0 ↔ _
    rw [mem_lots]
    constructor
    · rintro ⟨a, b⟩; exact ⟨by omega, b⟩
    · rintro ⟨a, b⟩; exact ⟨by omega, b⟩
  | m + 1 => by
    show S ∈ lotsTo cells m ++ lots cells (m + 1) ↔ _
    rw [List.mem_append, mem_lotsTo, mem_lots]
    constructor
    · rintro (⟨a, b⟩ | ⟨a, b⟩)
      · exact ⟨by omega, b⟩
      · exact ⟨by omega, b⟩
    · rintro ⟨a, b⟩
      by_cases h : S.length ≤ m
      · exact .inl ⟨h, b⟩
      · exact .inr ⟨by omega, b⟩
def before (a b : List C) : Prop := a.length < b.length ∨ (a.length = b.length ∧ llt a b)
theorem lotsTo_sorted {cells : List C} (hc : Asc cells) : ∀ m, (lotsTo cells m).Pairwise before
  | 0 => List.Pairwise.imp_of_mem (fun {a b} ha hb h => .inr ⟨by rw [(mem_lots.mp ha).1, (mem_lots.mp hb).1], h⟩) (lots_sorted hc 0)
  | m + 1 => by
    show (lotsTo cells m ++ lots cells (m + 1)).Pairwise before
    rw [List.pairwise_append]
    refine ⟨lotsTo_sorted hc m, List.Pairwise.imp_of_mem (fun {a b} ha hb h => .inr ⟨by rw [(mem_lots.mp ha).1, (mem_lots.mp hb).1], h⟩) (lots_sorted hc (m + 1)), fun a ha b hb => ?_⟩
    have h1 := (mem_lotsTo.mp ha).1
    have h2 := (mem_lots.mp hb).1
    exact .inl (by omega)
/-- the first of them that is enough is due -/
theorem due_first {f : Fam} {cells : List C} {m i : Nat} (hc : Asc cells) (hl : ∀ x, x ∈ cells ↔ live f x) {S : List C} (hS : (lotsTo cells m)[i]? = some S) (he : enough f S) (hn : ∀ (j : Nat) T, j < i → (lotsTo cells m)[j]? = some T → ¬ enough f T) : Due f m (some S) := by
  have hm := mem_lotsTo.mp (List.mem_of_getElem? hS)
  refine ⟨⟨hm.2.1, fun x hx => (hl x).mp (hm.2.2 x hx)⟩, hm.1, he, fun S' h1 h2 => ?_⟩
  refine Classical.byContradiction fun hcn => ?_
  have hb : before S' S := by
    by_cases q : S.length ≤ S'.length
    · by_cases q2 : S'.length = S.length
      · by_cases q3 : llt S' S
        · exact .inr ⟨q2, q3⟩
        · exact absurd ⟨q, fun _ => q3⟩ hcn
      · exact absurd ⟨q, fun z => absurd z q2⟩ hcn
    · exact .inl (by omega)
  have hin : S' ∈ lotsTo cells m := mem_lotsTo.mpr ⟨by rcases hb with q | ⟨q, _⟩ <;> omega, h1.asc, fun x hx => (hl x).mpr (h1.live x hx)⟩
  obtain ⟨j, hj⟩ := List.getElem?_of_mem hin
  have hp := List.pairwise_iff_getElem.mp (lotsTo_sorted hc m)
  obtain ⟨hi', ei⟩ := List.getElem?_eq_some_iff.mp hS
  obtain ⟨hj', ej⟩ := List.getElem?_eq_some_iff.mp hj
  rcases Nat.lt_trichotomy j i with q | q | q
  · exact hn j S' q hj h2
  · subst q
    rw [ei] at ej
    subst ej
    rcases hb with q | ⟨_, q⟩
    · omega
    · exact llt_irr _ q
  · have := hp i j hi' hj' q
    rw [ei, ej] at this
    rcases hb with q1 | ⟨q1, q2⟩ <;> rcases this with q3 | ⟨q3, q4⟩
    · omega
    · omega
    · omega
    · exact llt_irr _ (llt_trans q2 q4)
theorem due_none {f : Fam} {cells : List C} {m : Nat} (hl : ∀ x, x ∈ cells ↔ live f x) (hn : ∀ T ∈ lotsTo cells m, ¬ enough f T) : Due f m none := fun S h1 h2 =>
  hn S (mem_lotsTo.mpr ⟨h2, h1.asc, fun x hx => (hl x).mpr (h1.live x hx)⟩)
end UL
end
section
/-! Unitgrids: the placings of a grid as a family; what a look at a struck grid tells. -/
namespace UG
open PySem PySem.Spec PyProof.Rows L2 RZ UM UL
/-- a placing's cells -/
def pcs (n : Nat) (q : Nat → Nat) : List C := (List.range n).map fun i => ((i : Nat), ((q i : Nat) : Int))
theorem mem_pcs {n : Nat} {q : Nat → Nat} {x : C} : x ∈ pcs n q ↔ ∃ i, i < n ∧ x = (((i : Nat) : Int), ((q i : Nat) : Int)) := by
  unfold pcs
  rw [List.mem_map]
  constructor
  · rintro ⟨i, hi, rfl⟩
    exact ⟨i, List.mem_range.mp hi, rfl⟩
  · rintro ⟨i, hi, rfl⟩
    exact ⟨i, List.mem_range.mpr hi, rfl⟩
/-- the placings of a grid -/
def gf (n b : Nat) (g : Gd) : Fam := ⟨Ut, fun l u => ∃ q, IsP n (Ed n g) q ∧ l = pcs n q ∧ u = wP n b g q⟩
theorem strike_pl {n : Nat} {g : Gd} {S : List C} (hS : InG n S) {q : Nat → Nat} : IsP n (Ed n (strike g S)) q ↔ IsP n (Ed n g) q ∧ avoids (pcs n q) S := by
  have pos : ∀ p ∈ S, 0 ≤ p.1 ∧ 0 ≤ p.2 := fun p hp => ⟨(hS p hp).1, (hS p hp).2.2.1⟩
  have key : ∀ i j : Nat, (i, j) ∈ S.map (fun p => (p.1.toNat, p.2.toNat)) ↔ (((i : Nat) : Int), ((j : Nat) : Int)) ∈ S := fun i j => by
    rw [List.mem_map]
    constructor
    · rintro ⟨p, hp, e⟩
      obtain ⟨e1, e2⟩ := Prod.mk.inj e
      have h1 := pos p hp
      have : p = (((i : Nat) : Int), ((j : Nat) : Int)) := Prod.ext (by show p.1 = (i : Int); omega) (by show p.2 = (j : Int); omega)
      exact this ▸ hp
    · intro h
      exact ⟨_, h, rfl⟩
  constructor
  · intro h
    refine ⟨⟨h.toInj, fun i hi => ?_⟩, fun x hx hm => ?_⟩
    · obtain ⟨h1, h2, u, hu⟩ := h.at_ i hi
      rw [strike_ce S g i (q i) pos] at hu
      split at hu
      · cases hu
      · exact ⟨h1, h2, u, hu⟩
    · obtain ⟨i, hi, rfl⟩ := mem_pcs.mp hx
      obtain ⟨h1, h2, u, hu⟩ := h.at_ i hi
      rw [strike_ce S g i (q i) pos, if_pos ((key _ _).mpr hm)] at hu
      cases hu
  · rintro ⟨h, ha⟩
    refine ⟨h.toInj, fun i hi => ?_⟩
    obtain ⟨h1, h2, u, hu⟩ := h.at_ i hi
    refine ⟨h1, h2, u, ?_⟩
    rw [strike_ce S g i (q i) pos, if_neg fun z => ha _ (mem_pcs.mpr ⟨i, hi, rfl⟩) ((key _ _).mp z)]
    exact hu
theorem sm_same {n : Nat} {f h : Nat → Int} (e : ∀ i, i < n → f i = h i) : sm n f = sm n h := by
  induction n with
  | zero => rfl
  | succ n ih =>
    show sm n f + f n = sm n h + h n
    rw [ih fun i hi => e i (by omega), e n (by omega)]
theorem strike_w {n b : Nat} {g : Gd} {S : List C} (hS : InG n S) {q : Nat → Nat} (h : IsP n (Ed n (strike g S)) q) : wP n b (strike g S) q = wP n b g q := by
  have pos : ∀ p ∈ S, 0 ≤ p.1 ∧ 0 ≤ p.2 := fun p hp => ⟨(hS p hp).1, (hS p hp).2.2.1⟩
  refine vec_congr fun k _ => sm_same fun i hi => ?_
  obtain ⟨h1, h2, u, hu⟩ := h.at_ i hi
  have e := hu
  rw [strike_ce S g i (q i) pos] at e
  split at e
  · cases e
  · unfold ex
    rw [hu, e]
/-- what a verdict tells of a lot -/
theorem look_nought {n b : Nat} {g : Gd} {S : List C} (hS : InG n S) (h : ∀ q, ¬ IsP n (Ed n (strike g S)) q) : Look (gf n b g) S false [] :=
  .nought fun l u hl ha => by
    obtain ⟨q, hq, rfl, rfl⟩ := hl
    exact h q (strike_pl hS |>.mpr ⟨hq, ha⟩)
theorem look_yes {n b : Nat} {g : Gd} {S : List C} (hS : InG n S) {p : Nat → Nat} {u : Ut} (hp : IsP n (Ed n (strike g S)) p) (h : Alike n b (strike g S) u) : Look (gf n b g) S true [] := by
  obtain ⟨h1, h2⟩ := (strike_pl hS).mp hp
  refine .yes ⟨⟨_, _, ⟨p, h1, rfl, rfl⟩, h2⟩, ?_⟩
  rintro l u l' u' ⟨q, q1, rfl, rfl⟩ ⟨q', q2, rfl, rfl⟩ a1 a2
  have e1 := (strike_pl hS).mpr ⟨q1, a1⟩
  have e2 := (strike_pl hS).mpr ⟨q2, a2⟩
  rw [← strike_w hS e1, ← strike_w hS e2, h q e1, h q' e2]
theorem look_two {n b : Nat} {g : Gd} {S : List C} (hS : InG n S) {p q : Nat → Nat} (hp : IsP n (Ed n (strike g S)) p) (hq : IsP n (Ed n (strike g S)) q) (ne : wP n b (strike g S) p ≠ wP n b (strike g S) q) : Look (gf n b g) S false (pcs n p ++ pcs n q) := by
  obtain ⟨h1, h2⟩ := (strike_pl hS).mp hp
  obtain ⟨h3, h4⟩ := (strike_pl hS).mp hq
  rw [strike_w hS hp, strike_w hS hq] at ne
  exact .two (f := gf n b g) ⟨p, h1, rfl, rfl⟩ ⟨q, h3, rfl, rfl⟩ h2 h4 ne
end UG
end
section
/-! Unitgrids: comprehensions of two clauses. -/
namespace UG
open PySem PySem.Spec PyProof.Rows L2 RZ
section
variable {K : PySem.W.Frag} {B : Hp}
/-- the data before the i-th turn of the outer loop -/
def outD (m : Nat → Nat) (f : Nat → Nat → PyData) (i : Nat) : List PyData := (List.range i).flatMap fun a => (List.range (m a)).map (f a)
/-- in the i-th turn, before the j-th of the inner loop -/
def Lc2In (K : PySem.W.Frag) (B : Hp) (m : Nat → Nat) (f : Nat → Nat → PyData) (M : Nat) (L : Addr) (i j : Nat) : Hp → Prop := fun H => ∃ acc, H L = some (.lst acc) ∧ acc.length ≤ i * M + j ∧ Same B H ∧ IsA K H acc (outD m f i ++ (List.range j).map (f i))
abbrev Lc2Out (K : PySem.W.Frag) (B : Hp) (m : Nat → Nat) (f : Nat → Nat → PyData) (M : Nat) (L : Addr) (i : Nat) : Hp → Prop := Lc2In K B m f M L i 0
def Lc2Got (K : PySem.W.Frag) (B : Hp) (m : Nat → Nat) (f : Nat → Nat → PyData) (M : Nat) (L : Addr) (i j : Nat) : V → Hp → Prop := fun z H => ∃ acc, H L = some (.lst acc) ∧ acc.length < sizeLine ∧ Lc2In K B m f M L i (j + 1) (upd H L (.lst (acc ++ [z])))
variable {m : Nat → Nat} {f : Nat → Nat → PyData} {M : Nat} {L : Addr}
theorem Lc2In.got {i j : Nat} {z : V} {H H' : Hp} (hL : B L = none) (h : Lc2In K B m f M L i j H) (s : Same H H') (hz : Is K H' z (f i j)) (hb : i * M + j < sizeLine) : Lc2Got K B m f M L i j z H' := by
  obtain ⟨acc, e, hl, sb, ha⟩ := h
  refine ⟨acc, s _ _ e, by omega, acc ++ [z], upd_same, by rw [List.length_append]; show acc.length + 1 ≤ _; omega, (sb.trans s).out hL, ?_⟩
  rw [List.range_succ, List.map_append, ← List.append_assoc]
  exact ((ha.same s).snoc hz).tk (Tk.lst (s _ _ e))
theorem Lc2In.over {i : Nat} {H : Hp} (hm : m i ≤ M) (h : Lc2In K B m f M L i (m i) H) : Lc2Out K B m f M L (i + 1) H := by
  obtain ⟨acc, e, hl, sb, ha⟩ := h
  refine ⟨acc, e, by rw [Nat.succ_mul]; omega, sb, ?_⟩
  rw [List.range_zero, List.map_nil, List.append_nil]
  unfold outD
  rw [List.range_succ, List.flatMap_append]
  simpa [outD] using ha
theorem Lc2In.same {i j : Nat} {H H' : Hp} (h : Lc2In K B m f M L i j H) (s : Same H H') : Lc2In K B m f M L i j H' := by
  obtain ⟨acc, e, hl, sb, ha⟩ := h
  exact ⟨acc, s _ _ e, hl, sb.trans s, ha.same s⟩
section
variable {σ σ2 : L2.St} {wi wi1 : TI} {g g1 : TG} {tt tt1 : TT} {te : TE} {vs vs1 : List Nat} {Q : VK} {J J1 : It} {n : Nat} {item item1 : Nat → V → Hp → Prop} {H : Hp}
theorem lc2_in {i : Nat} {H5 : Hp} (hm : m i ≤ M) (fd : Feed J1 (m i) B item1) (h0 : Lc2Out K B m f M L i H5)
    (hs : ∀ j y H6 H7, j < m i → Lc2In K B m f M L i j H6 → Same H6 H7 → item1 j y H7 → g1 y (wipe σ2 vs1) H7 fun σ3 H8 => wipe σ3 vs1 = wipe σ2 vs1 ∧ tt1 σ3 H8 fun b H9 => if b = true then te σ3 H9 (Lc2Got K B m f M L i j) else Lc2In K B m f M L i (j + 1) H9) :
    ∃ W1 : Nat → Nat → Hp → Prop, (∃ m, W1 0 m H5) ∧ ∀ j k H, W1 j k H →
      (J1.stop j H ∧ Lc2Out K B m f M L (i + 1) H) ∨ (J1.go j H ∧ ∃ Nx1 : Hp → Prop, (∀ H', Nx1 H' → ∃ k', k' < k ∧ W1 (j + 1) k' H') ∧ ∀ x H', J1.yld j H x H' → g1 x (wipe σ2 vs1) H' fun σ3 H5 => wipe σ3 vs1 = wipe σ2 vs1 ∧ tt1 σ3 H5 fun b H6 =>
        if b = true then te σ3 H6 fun y H7 => ∃ acc, H7 L = some (.lst acc) ∧ acc.length < sizeLine ∧ Nx1 (upd H7 L (.lst (acc ++ [y]))) else Nx1 H6) := by
  refine ⟨fun j k H => j + k = m i ∧ Lc2In K B m f M L i j H, ⟨m i, by omega, h0⟩, fun j k H hW => ?_⟩
  obtain ⟨e, hP⟩ := hW
  have hB : Same B H := hP.choose_spec.2.2.1
  by_cases hj : j < m i
  · refine .inr ⟨fd.go j H hB hj, Lc2In K B m f M L i (j + 1), fun H' hN => ⟨k - 1, by omega, by omega, hN⟩, fun x H' y => ?_⟩
    obtain ⟨s, it⟩ := fd.yld j H x H' hB hj y
    exact hs j x H H' hj hP s it
  · have e2 : j = m i := by omega
    subst e2
    exact .inl ⟨fd.stop H hB, hP.over hm⟩
/-- [elt for .. for ..]: values that never change -/
theorem lc2M {H1 : Hp} (hm : ∀ i, i < n → m i ≤ M) (fd : Feed J n H1 item)
    (hs : ∀ L i x H2 H', H1 L = none → i < n → Lc2Out K H1 m f M L i H2 → Same H2 H' → item i x H' → g x (wipe σ vs) H' fun σ2 H3 => wipe σ2 vs = wipe σ vs ∧ tt σ2 H3 fun b H4 =>
      if b = true then wi1 σ2 H4 fun J1 H5 => ∃ W1 : Nat → Nat → Hp → Prop, (∃ m, W1 0 m H5) ∧ ∀ j k H, W1 j k H →
        (J1.stop j H ∧ Lc2Out K H1 m f M L (i + 1) H) ∨ (J1.go j H ∧ ∃ Nx1 : Hp → Prop, (∀ H', Nx1 H' → ∃ k', k' < k ∧ W1 (j + 1) k' H') ∧ ∀ x H', J1.yld j H x H' → g1 x (wipe σ2 vs1) H' fun σ3 H5 => wipe σ3 vs1 = wipe σ2 vs1 ∧ tt1 σ3 H5 fun b H6 =>
          if b = true then te σ3 H6 fun y H7 => ∃ acc, H7 L = some (.lst acc) ∧ acc.length < sizeLine ∧ Nx1 (upd H7 L (.lst (acc ++ [y]))) else Nx1 H6)
      else Lc2Out K H1 m f M L (i + 1) H4)
    (hd : ∀ L H2, H1 L = none → Same H1 H2 → IsL K H2 L (outD m f n) → Q (.ref L) H2) :
    ∀ D, H1 D = none → ∃ W : Nat → Nat → Hp → Prop, (∃ m, W 0 m (upd H1 D (.lst []))) ∧ ∀ i m H, W i m H →
      (J.stop i H ∧ Q (.ref D) H) ∨ (J.go i H ∧ ∃ Nx : Hp → Prop, (∀ H', Nx H' → ∃ m', m' < m ∧ W (i + 1) m' H') ∧ ∀ x H', J.yld i H x H' → g x (wipe σ vs) H' fun σ2 H2 => wipe σ2 vs = wipe σ vs ∧ tt σ2 H2 fun b H3 =>
        if b = true then wi1 σ2 H3 fun J1 H4 => ∃ W1 : Nat → Nat → Hp → Prop, (∃ m, W1 0 m H4) ∧ ∀ j k H, W1 j k H →
          (J1.stop j H ∧ Nx H) ∨ (J1.go j H ∧ ∃ Nx1 : Hp → Prop, (∀ H', Nx1 H' → ∃ k', k' < k ∧ W1 (j + 1) k' H') ∧ ∀ x H', J1.yld j H x H' → g1 x (wipe σ2 vs1) H' fun σ3 H5 => wipe σ3 vs1 = wipe σ2 vs1 ∧ tt1 σ3 H5 fun b H6 =>
            if b = true then te σ3 H6 fun y H7 => ∃ acc, H7 D = some (.lst acc) ∧ acc.length < sizeLine ∧ Nx1 (upd H7 D (.lst (acc ++ [y]))) else Nx1 H6)
        else Nx H3) := by
  intro L hL
  refine ⟨fun i m' H => i + m' = n ∧ Lc2Out K H1 m f M L i H, ⟨n, by omega, [], upd_same, Nat.zero_le _, same_upd hL, .nil⟩, fun i m' H hW => ?_⟩
  obtain ⟨e, hP⟩ := hW
  have hB : Same H1 H := hP.choose_spec.2.2.1
  by_cases hi : i < n
  · refine .inr ⟨fd.go i H hB hi, Lc2Out K H1 m f M L (i + 1), fun H' hN => ⟨m' - 1, by omega, by omega, hN⟩, fun x H' y => ?_⟩
    obtain ⟨s, it⟩ := fd.yld i H x H' hB hi y
    exact hs L i x H H' hL hi hP s it
  · have e2 : i = n := by omega
    subst e2
    refine .inl ⟨fd.stop H hB, hd L H hL hB ?_⟩
    obtain ⟨acc, e1, _, _, ha⟩ := hP
    rw [List.range_zero, List.map_nil, List.append_nil] at ha
    exact ⟨acc, e1, ha⟩
/-- .. as the whole comprehension -/
theorem lc2G (C : It → Hp → Prop) (hw : ∀ R : It → Hp → Prop, (∀ J H1, C J H1 → R J H1) → wi σ H R)
    (body : ∀ J H1, C J H1 → ∃ (n M : Nat) (m : Nat → Nat) (f : Nat → Nat → PyData) (item : Nat → V → Hp → Prop), (∀ i, i < n → m i ≤ M) ∧ Feed J n H1 item ∧
      (∀ L i x H2 H', H1 L = none → i < n → Lc2Out K H1 m f M L i H2 → Same H2 H' → item i x H' → g x (wipe σ vs) H' fun σ2 H3 => wipe σ2 vs = wipe σ vs ∧ tt σ2 H3 fun b H4 =>
        if b = true then wi1 σ2 H4 fun J1 H5 => ∃ W1 : Nat → Nat → Hp → Prop, (∃ m, W1 0 m H5) ∧ ∀ j k H, W1 j k H →
          (J1.stop j H ∧ Lc2Out K H1 m f M L (i + 1) H) ∨ (J1.go j H ∧ ∃ Nx1 : Hp → Prop, (∀ H', Nx1 H' → ∃ k', k' < k ∧ W1 (j + 1) k' H') ∧ ∀ x H', J1.yld j H x H' → g1 x (wipe σ2 vs1) H' fun σ3 H5 => wipe σ3 vs1 = wipe σ2 vs1 ∧ tt1 σ3 H5 fun b H6 =>
            if b = true then te σ3 H6 fun y H7 => ∃ acc, H7 L = some (.lst acc) ∧ acc.length < sizeLine ∧ Nx1 (upd H7 L (.lst (acc ++ [y]))) else Nx1 H6)
        else Lc2Out K H1 m f M L (i + 1) H4) ∧
      ∀ L H2, H1 L = none → Same H1 H2 → IsL K H2 L (outD m f n) → Q (.ref L) H2) : tLc2 wi g tt wi1 g1 tt1 te vs vs1 σ H Q :=
  hw _ fun J H1 c => let ⟨_, _, _, _, _, hm, fd, hs, hd⟩ := body J H1 c; lc2M hm fd hs hd
end
end
end UG
end
section
/-! Unitgrids: the look at a lot (a def within fewest_struck). -/
namespace UG
open PySem PySem.Spec PyProof.Rows L2 RZ UM UL NdefX
abbrev s_look : Stmt := (defBody s_fewest_struck).getD 3 s_fewest_struck
abbrev n_look : List Str := ["lot", "grid", "told", "found", "placing", "i", "j"]
theorem sc_look : NScope n_look ["lot"] ["grid"] (C8.fnScope s_look) := nscope_by (by decide +kernel)
abbrev mk_look (q : Str) (cl : List (Str × Addr)) (c' : Addr) : NF := NF.of s_look "look" q cl c'
section
variable {P : Program} {w : World} {K : PySem.W.Frag} {mg : Str → Option Value} {base : Heap}
theorem sh_nought : SeqAt.shaped (.str (Str.ofString "nought")) = true := by decide +kernel
theorem two_le2 (x y : V) : [x, y].length ≤ sizeLine := by show 2 ≤ sizeLine; decide
/-- what a look gives: enough or not, and the cells that may be struck next -/
def LookV (K : PySem.W.Frag) (H0 H : Hp) (v : V) (b : Bool) (cs : List C) : Prop := ∃ T l, v = .ref T ∧ H0 l = none ∧ SqT K H T [.bl b, .ref l] ∧ IsL K H l (cs.map pr)
def sp_look (K : PySem.W.Frag) : List (Option V) → Sp := fun ws vs H Q _ => ∃ gv x, ws = [some gv] ∧ vs = [x] ∧ ∃ (b : Nat) (g : Gd) (S : List C), IsG K H gv b g ∧ OkG b g ∧ Is K H x (lot S) ∧ InG g.length S ∧ S.length ≤ 100 ∧
  ∀ H' v bb cs, Same H H' → LookV K H H' v bb cs → Look (gf g.length b g) S bb cs → Q v H'
theorem ok_look (T : Txt K mg) (f : Addr) (ql : Str) (cl : List (Str × Addr)) (c' : Addr) : NOk P w K mg base CX0 17 f (mk_look ql cl c') ["lot"] ["grid"] (sp_look K) := by
  refine nok_of (N := n_look) sc_look (fun doc pm ctv us hl => match us, hl with | [_], _ => rfl) (fun ws vs H Q E h => by obtain ⟨_, _, _, rfl, _⟩ := h; rfl) (fun A outer s H vs ws Q E hr hf hc hw h => ?_)
  obtain ⟨gv, x, rfl, rfl, b, g, S, hg, ok, hx, hS, hl, q⟩ := h
  suffices h' : ∃ t, PSs (ncx CX0 P w K mg base n_look (mk_look ql cl c') f A outer s H E).nox (defBody s_look) t ∧ t { nx := fun _ H' => Q .non H', rt := Q } (startF n_look [x] [some gv]) H by
    obtain ⟨t, h1, h2⟩ := h'
    exact ⟨t, h1.nox, h2⟩
  refine ⟨_, (pss_cons (ps_set (i := 2) sc_look.nd rfl (.inl rfl) (pc (ok_struck T) hr rfl (pa_cons (pv 1) (pa_cons (pv 0) pa_nil))))
    (pss_cons (ps_set (i := 3) sc_look.nd rfl (.inl rfl) (pc (ok_determinant_verdict T) hr rfl (pa_cons (pv 2) pa_nil)))
    (pss_cons (ps_if (pt_cmp (pc_notN (pv 3)))
      (pss_one (ps_ret (pe_tup (pa_cons (pe_cmpR (op_neD hr.units) (pv 3) pe_str (nomark _)) (pa_cons (pe_lst pa_nil) pa_nil)))))
      pss_nil)
    (pss_one (ps_ret (pe_tup (pa_cons pe_bl (pa_cons (pe_lc2 (own := [("placing", 4), ("i", 5), ("j", 6)]) (vs1 := [5, 6]) rfl sc_look.nd (pi_tup (pc (ok_two_placings T) hr rfl (pa_cons (pv 2) pa_nil))) (blkOk_by (N := n_look) (sc := defScope s_look) (by decide +kernel)) (by decide) (fun _ _ _ _ _ => (pg_name (i := 4) sc_look.nd rfl (.inl rfl))) (fun _ _ _ _ _ => pts_nil) (fun _ _ _ _ _ => (pi_enumTK K (by rfl) rfl T.b_enumerate (pa_cons (pv 4) pa_nil) rfl)) (fun _ _ _ _ _ => (by refine pg2 (i := 5) (j := 6) K rfl sc_look.nd ?_ ?_ ?_ ?_ ?_ ?_ ?_ <;> first | rfl | exact .inl rfl | exact .inr rfl)) (fun _ _ _ _ _ => pts_nil) (fun _ _ _ _ _ => (pe_tup (pa_cons (pv 5) (pa_cons (pv 6) pa_nil))))) pa_nil)))))))), ?_⟩
  dsimp only [tVar, tC, tAdd, tSub, tMul, t2I, tCmp, tIsN, tNotN, tB, tAnd, tOr, tNot, tAndV, tOrV, tNotV, tIf, tSeq, tNext, tDrop, tRet, tRetN, tIfS, tAsg, tAug, tPar, gName, gNil, gCons, gSub, tOp, tUn, tTest, tChain, tCons, tNil, tTup, tLst, tCall, tCB, tMake, tFld, sFld, tNoPart, tPart, tSl, tBM, tBM0, rI0, rI, tYes, Cx.nox, Cx.blk, cxOf, List.nil_append, List.cons_append]
  obtain ⟨ok1, hlen⟩ := strike_ok S ok
  have hn : g.length ≤ 10 := ok.n2
  -- the end: the pair that is handed out
  have fin : ∀ {H4 H5 : Hp} {l p : Addr} (bb : Bool) (cs : List C), Same H H4 → H4 p = none → H l = none → IsL K H4 l (cs.map pr) → UL.Look (gf g.length b g) S bb cs → Q (.ref p) (upd H4 p (.tup [.bl bb, .ref l])) := fun {H4 H5 l p} bb cs s hp hn hL hk =>
    q _ _ bb cs (s.new hp) ⟨p, l, rfl, hn, SqT.of upd_same, hL.ne (Tk.new hp) (fun e => by obtain ⟨_, z, _⟩ := hL; rw [e, hp] at z; cases z)⟩ hk
  refine ⟨_, rfl, _, rfl, _, _, rfl, b, g, S, hg, ok, hx, hS, hl, fun H1 v1 s1 h1 => ⟨_, rfl, _, rfl, b, strike g S, h1, ok1, fun H2 v2 s2 h2 => ?_⟩⟩
  rw [hlen] at h2
  have s12 := s1.trans s2
  rcases h2 with ⟨rfl, hno⟩ | ⟨u, p, hu, hul, hp, hwp, hal⟩ | ⟨rfl, hp, hna⟩
  · refine ⟨_, rfl, true, rfl, ifT rfl ⟨_, rfl, r_ne (d := .str (Str.ofString "nought")) (e := .str (Str.ofString "nought")) (.str _) (.str _) sh_nought sh_nought ⟨Nat.zero_le _, fun l hl' => ⟨two_le2 _ _, fun p hp => ?_⟩⟩⟩⟩
    have e : (!PyData.eqv (.str (Str.ofString "nought")) (.str (Str.ofString "nought"))) = false := by decide
    rw [e]
    exact fin (H5 := H2) false [] (s12.new hl') hp (s12.free hl') (IsL.mk hl' .nil) (look_nought hS hno)
  · have e1 : (!decide (v2 = V.non)) = true := by
      have := hu.notNon
      simpa using this
    refine ⟨_, rfl, true, by rw [e1], ifT rfl ⟨_, rfl, r_ne (d := un u) (e := .str (Str.ofString "nought")) hu (.str _) (sh_un (by rw [hul]; have := ok.b2; omega)) sh_nought ⟨Nat.zero_le _, fun l hl' => ⟨two_le2 _ _, fun p hp' => ?_⟩⟩⟩⟩
    have e : (!PyData.eqv (un u) (.str (Str.ofString "nought"))) = true := rfl
    rw [e]
    exact fin (H5 := H2) true [] (s12.new hl') hp' (s12.free hl') (IsL.mk hl' .nil) (look_yes hS hp hal)
  · refine ⟨_, rfl, false, rfl, ifF rfl ?_⟩
    refine lc2G (K := K) (fun J H3 => Same H2 H3 ∧ ∃ p1 p2 a xs, J = Itt K a ∧ SqT K H3 a xs ∧ IsA K H3 xs [tn p1, tn p2] ∧ Pl g.length (strike g S) p1 ∧ Pl g.length (strike g S) p2 ∧ wP g.length b (strike g S) (pf p1) ≠ wP g.length b (strike g S) (pf p2)) (fun R hR => ?_) (fun J H3 hC => ?_)
    · unfold iTup
      dsimp only [tVar, tC, tAdd, tSub, tMul, t2I, tCmp, tIsN, tNotN, tB, tAnd, tOr, tNot, tAndV, tOrV, tNotV, tIf, tSeq, tNext, tDrop, tRet, tRetN, tIfS, tAsg, tAug, tPar, gName, gNil, gCons, gSub, tOp, tUn, tTest, tChain, tCons, tNil, tTup, tLst, tCall, tCB, tMake, tFld, sFld, tNoPart, tPart, tSl, tBM, tBM0, rI0, rI, tYes, Cx.nox, Cx.blk, cxOf, List.nil_append, List.cons_append]
      refine ⟨_, rfl, _, rfl, b, strike g S, h1.same s2, ok1, by rw [hlen]; exact hp, by rw [hlen]; exact hna, fun H3 v3 p1 p2 s3 h3 pl1 pl2 ne => ?_⟩
      rw [hlen] at pl1 pl2 ne
      obtain ⟨a, xs, rfl, ht, ha⟩ := h3.tup_ex
      exact ⟨a, rfl, ⟨xs, ht⟩, hR _ _ ⟨s3, p1, p2, a, xs, rfl, ht, ha, pl1, pl2, ne⟩⟩
    obtain ⟨s3, p1, p2, a, xs, rfl, ht, ha, pl1, pl2, ne⟩ := hC
    have hxl : xs.length = 2 := ha.length
    have s13 := s12.trans s3
    have item : ∀ (i : Nat) x, xs[i]? = some x → Is K H3 x (tn (if i = 0 then p1 else p2)) ∧ (if i = 0 then p1 else p2).length = g.length := fun i x hx => by
      obtain ⟨d, hd, h⟩ := ha.get' hx
      match i, hd with
      | 0, hd => cases hd; exact ⟨h, pl1.len⟩
      | 1, hd => cases hd; exact ⟨h, pl2.len⟩
    refine ⟨2, g.length, fun _ => g.length, fun i j => pr (((j : Nat) : Int), ((pf (if i = 0 then p1 else p2) j : Nat) : Int)), _, fun _ _ => Nat.le_refl _, hxl ▸ feedT ht, fun L i x H4 H5 hL hi hP s it => ?_, fun L H4 hL s4 h4 => ?_⟩
    · obtain ⟨hx1, hx2⟩ := item i x it
      obtain ⟨c, ys, rfl, htc, hac⟩ := hx1.tup_ex
      have hyl : ys.length = g.length := by rw [hac.length, List.length_map, hx2]
      have hB : Same H3 H4 := hP.choose_spec.2.2.1
      dsimp only [tVar, tC, tAdd, tSub, tMul, t2I, tCmp, tIsN, tNotN, tB, tAnd, tOr, tNot, tAndV, tOrV, tNotV, tIf, tSeq, tNext, tDrop, tRet, tRetN, tIfS, tAsg, tAug, tPar, gName, gNil, gCons, gSub, tOp, tUn, tTest, tChain, tCons, tNil, tTup, tLst, tCall, tCB, tMake, tFld, sFld, tNoPart, tPart, tSl, tBM, tBM0, rI0, rI, tYes, Cx.nox, Cx.blk, cxOf, List.nil_append, List.cons_append, tYes]
      refine ⟨rfl, ifT rfl ?_⟩
      unfold iIeT
      dsimp only [tVar, tC, tAdd, tSub, tMul, t2I, tCmp, tIsN, tNotN, tB, tAnd, tOr, tNot, tAndV, tOrV, tNotV, tIf, tSeq, tNext, tDrop, tRet, tRetN, tIfS, tAsg, tAug, tPar, gName, gNil, gCons, gSub, tOp, tUn, tTest, tChain, tCons, tNil, tTup, tLst, tCall, tCB, tMake, tFld, sFld, tNoPart, tPart, tSl, tBM, tBM0, rI0, rI, tYes, Cx.nox, Cx.blk, cxOf, List.nil_append, List.cons_append]
      refine ⟨_, rfl, c, ys, rfl, SqT.same (hB.trans s) htc, ?_⟩
      refine lc2_in (m := fun _ => g.length) (g1 := gTup K 2 (gCons (gName 5) (gCons (gName 6) gNil))) (tt1 := tYes) (te := tTup (tCons (tVar 5) (tCons (tVar 6) tNil))) (vs1 := [5, 6]) (σ2 := _) (Nat.le_refl _) (hyl ▸ feedET htc) (hP.same s) fun j y H6 H7 hj hP2 s2' it2 => ?_
      obtain ⟨T2, v, rfl, e3, e4⟩ := it2
      obtain ⟨cj, hc1, rfl⟩ := nat_get hac e3
      refine gPair e4 ?_
      dsimp only [tVar, tC, tAdd, tSub, tMul, t2I, tCmp, tIsN, tNotN, tB, tAnd, tOr, tNot, tAndV, tOrV, tNotV, tIf, tSeq, tNext, tDrop, tRet, tRetN, tIfS, tAsg, tAug, tPar, gName, gNil, gCons, gSub, tOp, tUn, tTest, tChain, tCons, tNil, tTup, tLst, tCall, tCB, tMake, tFld, sFld, tNoPart, tPart, tSl, tBM, tBM0, rI0, rI, tYes, Cx.nox, Cx.blk, cxOf, List.nil_append, List.cons_append, tYes]
      refine ⟨rfl, ifT rfl ⟨_, rfl, _, rfl, two_le2 _ _, fun p hp' => ?_⟩⟩
      refine hP2.got hL (s2'.trans (same_upd hp')) (Is.mk hp' (.cons (.int _) (.cons ?_ .nil))) ?_
      · unfold pf
        rw [getD_nat hc1]
        exact .int _
      · have : i ≤ 1 := by omega
        rw [sizeLine_eq]
        have : i * g.length ≤ 1 * g.length := Nat.mul_le_mul_right _ this
        omega
    · refine ⟨two_le2 _ _, fun p hp' => fin (H5 := H4) false (pcs g.length (pf p1) ++ pcs g.length (pf p2)) (s13.trans s4) hp' (s13.free hL) ?_ (look_two hS pl1.is pl2.is ne)⟩
      have e : (pcs g.length (pf p1) ++ pcs g.length (pf p2)).map pr = outD (fun _ => g.length) (fun i j => pr (((j : Nat) : Int), ((pf (if i = 0 then p1 else p2) j : Nat) : Int))) 2 := by
        unfold outD pcs
        rw [show List.range 2 = [0, 1] from rfl, List.map_append, List.map_map, List.map_map]
        simp
        rfl
      rw [e]
      exact h4
end
end UG
end
section
/-! Unitgrids: a look called by the name that holds it, in least_lot. -/
namespace UG
open PySem PySem.Spec PyProof.Rows L2 RZ UM UL NdefX
/-- look(..): the slot holds the function -/
def tLook (K : PySem.W.Frag) (f : Addr) (F : NF) (gv : V) (i : Nat) (t : TA) : TE := fun σ H Q => σ[i]? = some (some (.ref f)) ∧ H f = some (FnO f F) ∧
  t σ H fun vs H1 => H1 f = some (FnO f F) ∧ H1 F.c = some (LamX.CodeO F.c F.qual) ∧ sp_look K [some gv] vs H1 Q E0
section
variable {X : Cx} {f : Addr} {F : NF} {gv : V} {x : Str} {i j k : Nat} {t : TA} {e : Expr} {es : List Expr} {p pos : Pos}
theorem pe_look (Fn : NOk X.prog X.w X.K X.mg X.base CX0 k f F ["lot"] ["grid"] (sp_look X.K)) (C0 : CellsAt F.cl ["grid"] [some gv] X.s_0.heap X.H_0) (nf : ∀ y c, F.cl.lookup y = some c → c ∉ X.fs) (hex : X.ex = []) (hr : Room j X.A) (hk : k ≤ j) (hN : X.N[i]? = some x) (hv : Vis X.env.scope x) (ha : PA X (e :: es) t)
    (hd : (x == ("__debug__" : Str)) = false := by decide) (hcd : (x == ("__classdict__" : Str)) = false := by decide)
    (he : starEach (e :: es) X.env = (false, eval e X.env) :: starEach es X.env := by rfl) (hpl : (backTo pos (starEach es X.env)).any (·.1) = false := by rfl) :
    PE X (.Call (.Name x p) (e :: es) [] pos) (tLook X.K f F gv i t) := by
  refine ⟨fun pins s σ H Q I h => ?_⟩
  obtain ⟨hs, hf, ht⟩ := h
  refine wpAny_Call_Name_kw (thn ((pe_var (pos := p) hN hv hd hcd).run pins s σ H (fun v H1 => v = .ref f ∧ H1 = H) I ⟨.ref f, hs, rfl, rfl⟩) fun u s1 ⟨v, H1, I1, r1, q1⟩ => ?_)
  obtain ⟨ev, eH⟩ := q1
  subst ev
  rw [eH] at I1
  obtain rfl : u = Value.ref f := r1
  refine PySem.W.callWith_F (first := []) (fnAt_of I1 hf) (thn (ha.run pos pins s1 σ H _ I1 ht) fun us s2 ⟨vs, H2, I2, r, h1, h2, q⟩ => ⟨fnAt_of I2 h1, ?_⟩) he hpl
  show wpAny _ _ (call (.ref f) us) _ _ _
  have C2 : CellsAt F.cl ["grid"] [some gv] s2.heap H2 := C0.later nf (fun y c hc => by rw [hex]; exact fun z => nomatch z) I2
  refine wpAny_call (codeAny_mono (Fn.run X.A X.stack s2 H2 us vs _ Q E0 (hr.mono hk) I2.env0 h1 h2 C2 r q) fun r s' hq => ?_)
  cases r with
  | error e => exact (pass0 (X := X)) pins σ H2 s2 e s' I2 hq
  | ok fl =>
    cases fl with
    | ret u => exact I2.after hq
    | next => exact False.elim hq
    | brk => exact False.elim hq
    | cont => exact False.elim hq
end
end UG
end
section
/-! Unitgrids, rules that the layer lacks: dicts whose keys are lots (tuples of pairs). -/
namespace UG
open PySem PySem.Spec PyProof.Rows L2
/-! ### such values as keys -/
mutual
def nk : PyData → NestedKey
  | .none => .none
  | .bool b => .num (if b = true then 1 else 0)
  | .int i => .num i
  | .str x => .text x
  | .tuple ds => .tup (nks ds)
  | .list _ => .none
  | .dict _ => .none
def nks : List PyData → List NestedKey
  | [] => []
  | d :: ds => nk d :: nks ds
end
theorem nks_map : ∀ ds : List PyData, nks ds = ds.map nk
  | [] => rfl
  | d :: ds => by rw [nks, nks_map ds]; rfl
section
variable {X : Cx} {pins : List (Addr × Obj)} {σ : L2.St} {H : Hp} {s : Shared}
mutual
theorem Is.nested (I : Inv X pins σ H s) : ∀ {v : V} {d : PyData} {u : Value}, Is X.K H v d → RelV v u → NestedIs s.heap (nk d) u
  | _, _, u, .non, r => by cases r; rw [nk]; exact .none
  | _, _, u, .bl b, r => by cases r; rw [nk]; exact .bool rfl
  | _, _, u, .int i, r => by obtain ⟨t, rfl⟩ := r; rw [nk]; exact .int i t
  | _, _, u, .str x, r => by obtain ⟨t, rfl⟩ := r; rw [nk]; exact .text x t
  | _, _, u, .tup h a, r => by
    cases r
    obtain ⟨its, rv, ⟨o, ho, hc, n, hd⟩, _⟩ := I.tuple h
    rw [nk]
    exact .tup ho hc hd (by simpa using IsA.nested I a rv)
theorem IsA.nested (I : Inv X pins σ H s) : ∀ {vs : List V} {ds : List PyData} {us : List Value}, IsA X.K H vs ds → Vals vs us → NestedAll s.heap (nks ds) us
  | _, _, _, .nil, .nil => by rw [nks]; exact .nil
  | _, _, _, .cons h a, .cons r t => by rw [nks]; exact .cons (Is.nested I h r) (IsA.nested I a t)
end
end
/-- the key that a lot is -/
def lk (l : List (Int × Int)) : NestedKey := nk (lot l)
theorem lk_eq (l : List (Int × Int)) : lk l = .tup (l.map fun p => .tup [.num p.1, .num p.2]) := by
  unfold lk lot
  rw [nk, nks_map, List.map_map]
  rfl
theorem lk_inj {a b : List (Int × Int)} (h : lk a = lk b) : a = b := by
  rw [lk_eq, lk_eq] at h
  injection h with h
  induction a generalizing b with
  | nil => cases b with | nil => rfl | cons y b => cases h
  | cons x a ih =>
    cases b with
    | nil => cases h
    | cons y b =>
      rw [List.map_cons, List.map_cons] at h
      injection h with h1 h2
      injection h1 with h1
      injection h1 with h3 h4
      injection h3 with h3
      injection h4 with h4 h5
      injection h4 with h4
      rw [ih h2, Prod.ext h3 h4]
theorem lk_depth (l : List (Int × Int)) : (lk l).depth ≤ 8 := by
  rw [lk_eq]
  have : NestedKey.depthAll (l.map fun p => NestedKey.tup [.num p.1, .num p.2]) ≤ 1 := by
    induction l with
    | nil => simp [NestedKey.depthAll]
    | cons p l ih =>
      rw [List.map_cons, NestedKey.depthAll]
      refine Nat.max_le.mpr ⟨?_, ih⟩
      simp [NestedKey.depth, NestedKey.depthAll]
  rw [NestedKey.depth]
  omega
/-! ### the dict -/
/-- a dict of these entries, as an object -/
def DictN (P : Program) (w : World) (d : Addr) (xs : List (NestedKey × Addr × Value)) : HO :=
  .ext fun h => (d == sysModules) = false ∧ ∃ o es ep, h.get? d = some o ∧ o.ExactDict ∧ o.data = .dict es ep ∧ es.toList = xs.map (entryOfKey (nestedKind P w))
/-- at d stands a dict whose keys are these lots -/
def IsDN (P : Program) (w : World) (K : PySem.W.Frag) (H : Hp) (d : Addr) (ls : List (List (Int × Int))) : Prop :=
  ∃ xs, H d = some (DictN P w d xs) ∧ xs.map (·.1) = ls.map lk ∧ ls.Nodup ∧ IsA K H (xs.map fun x => V.ref x.2.1) (ls.map lot)
theorem IsDN.same {P : Program} {w : World} {K : PySem.W.Frag} {H H' : Hp} {d : Addr} {ls : List (List (Int × Int))} (s : Same H H') (h : IsDN P w K H d ls) : IsDN P w K H' d ls :=
  let ⟨xs, e, h1, h2, h3⟩ := h; ⟨xs, s _ _ e, h1, h2, h3.same s⟩
theorem IsDN.ne {P : Program} {w : World} {K : PySem.W.Frag} {H : Hp} {d p : Addr} {o : HO} {ls : List (List (Int × Int))} (t : Tk H (upd H p o)) (ne : d ≠ p) (h : IsDN P w K H d ls) : IsDN P w K (upd H p o) d ls :=
  let ⟨xs, e, h1, h2, h3⟩ := h; ⟨xs, by rw [upd_ne ne]; exact e, h1, h2, h3.tk t⟩
/-- a lot among them -/
def addL (ls : List (List (Int × Int))) (l : List (Int × Int)) : List (List (Int × Int)) := if l ∈ ls then ls else ls ++ [l]
theorem mem_addL {ls : List (List (Int × Int))} {l x : List (Int × Int)} : x ∈ addL ls l ↔ x ∈ ls ∨ x = l := by
  unfold addL
  split
  · rename_i h
    exact ⟨.inl, fun z => z.elim id fun e => e ▸ h⟩
  · simp
section
variable {X : Cx}
theorem objOk_dn {P : Program} {w : World} {H : Hp} {h : Heap} {d : Addr} {xs : List (NestedKey × Addr × Value)} (q : (d == sysModules) = false ∧ ∃ o es ep, h.get? d = some o ∧ o.ExactDict ∧ o.data = .dict es ep ∧ es.toList = xs.map (entryOfKey (nestedKind P w))) :
    ObjOk P w H h d (DictN P w d xs) :=
  ⟨q, let ⟨_, o, _, _, e, _⟩ := q; ⟨o, e⟩, fun h1 h2 ⟨a, o, es, ep, e, r⟩ k => ⟨a, o, es, ep, k o e, r⟩⟩
/-- {} -/
def tDNewN (P : Program) (w : World) (K : PySem.W.Frag) : TE := fun _ H Q => ∀ p, H p = none → Q (.ref p) (upd H p (DictN P w p []))
theorem pe_dnewN {pos : Pos} : PE X (.Dict [] [] pos) (tDNewN X.prog X.w X.K) := ⟨fun pins s σ H Q I h => by
  refine wpAny_Dict_empty ⟨.ref s.heap.objs.size, _, I.laid (a := s.heap.objs.size) (o := DictN X.prog X.w s.heap.objs.size []) (t' := s.toks) (fun _ _ q => Heap.get?_push_of_some _ q) (Nat.le_refl _) (objOk_dn ⟨?_, _, _, _, Heap.get?_push_size _ rfl, ⟨rfl, rfl, rfl⟩, rfl, rfl⟩), rfl, h _ (I.hok.fresh (Nat.le_refl _))⟩
  obtain ⟨_, z, _⟩ := dt_empty (P := X.prog) (w := X.w) (H := H) s.heap I.big
  exact z⟩
theorem IsDN.new {P : Program} {w : World} {K : PySem.W.Frag} {H : Hp} {p : Addr} : IsDN P w K (upd H p (DictN P w p [])) p [] := ⟨[], upd_same, rfl, List.nodup_nil, .nil⟩
/-- what the dict is, as the library's rules want it -/
theorem IsDN.of {pins : List (Addr × Obj)} {σ : L2.St} {H : Hp} {s : Shared} (I : Inv X pins σ H s) {d : Addr} {xs : List (NestedKey × Addr × Value)} {ls : List (List (Int × Int))} (e : H d = some (DictN X.prog X.w d xs)) (h1 : xs.map (·.1) = ls.map lk) (h2 : ls.Nodup) (h3 : IsA X.K H (xs.map fun x => V.ref x.2.1) (ls.map lot)) :
    (d == sysModules) = false ∧ s.heap.DictOfH (nestedKind X.prog X.w) d xs := by
  obtain ⟨⟨q, o, es, ep, ho, hx, hd, he⟩, _⟩ := I.hok d _ e
  refine ⟨q, o, es, ep, ho, hx, hd, he, fun x hx => ?_, ?_⟩
  · obtain ⟨i, hi, rfl⟩ := List.mem_iff_getElem.mp hx
    have hl : xs.length = ls.length := by
      have := congrArg List.length h1
      simpa using this
    have hk : xs[i].1 = lk ls[i] := by
      have := congrArg (fun z : List NestedKey => z[i]?) h1
      simp only [List.getElem?_map, List.getElem?_eq_getElem hi, List.getElem?_eq_getElem (show i < ls.length by omega), Option.map_some, Option.some.injEq] at this
      exact this
    obtain ⟨l, hl1, hl2⟩ := h3.getM' (i := i) (v := V.ref xs[i].2.1) (by rw [List.getElem?_map, List.getElem?_eq_getElem hi]; rfl)
    rw [List.getElem?_eq_getElem (show i < ls.length by omega)] at hl1
    cases hl1
    rw [hk]
    exact ⟨Is.nested I hl2 rfl, lk_depth _⟩
  · rw [h1]
    exact List.Pairwise.map lk (fun a b hab e => hab (lk_inj e)) h2
/-- d[l] = v -/
def rSetDN (P : Program) (w : World) (K : PySem.W.Frag) : TSet := fun o i v H Q => ∃ d ls l, o = .ref d ∧ IsDN P w K H d ls ∧ Is K H i (lot l) ∧ ls.length < 1000000 ∧ v = .bl true ∧
  ∀ H', (∀ B, Same B H → B d = none → Same B H') → Tk H H' → (∀ b, b ≠ d → H' b = H b) → IsDN P w K H' d (addL ls l) → Q H'
theorem atKey_mem {xs : List (NestedKey × Addr × Value)} {ls : List (List (Int × Int))} (h1 : xs.map (·.1) = ls.map lk) (l : List (Int × Int)) : (atKey xs (lk l)).isSome = decide (l ∈ ls) := by
  have e : (atKey xs (lk l)).isSome = (xs.map (·.1)).any fun k => decide (k = lk l) := by
    unfold atKey
    rw [Option.isSome_map, List.any_map, Bool.eq_iff_iff, List.find?_isSome, List.any_eq_true]
    rfl
  rw [e, h1, List.any_map, Bool.eq_iff_iff, List.any_eq_true, decide_eq_true_eq]
  constructor
  · rintro ⟨x, hx, z⟩
    have := lk_inj (of_decide_eq_true z)
    exact this ▸ hx
  · intro h
    exact ⟨l, h, decide_eq_true rfl⟩
theorem set_dN (hu : X.A.units + 64 < cLine) : PSet X (rSetDN X.prog X.w X.K) := by
  intro pins s σ H o i v ov iv u Q I ro ri rv h
  obtain ⟨d, ls, l, rfl, ⟨xs, e, h1, h2, h3⟩, hi, hz, rfl, q⟩ := h
  cases ro
  cases rv
  have hl : xs.length = ls.length := by
    have := congrArg List.length h1
    simpa using this
  obtain ⟨sm, hD⟩ := IsDN.of I e h1 h2 h3
  obtain ⟨a, ys, rfl, ht, ha⟩ := id hi.tup_ex
  cases ri
  refine wpAny_setItem_heap (knd := nestedKind X.prog X.w) (k := lk l) (hsz := by rw [hl]; exact Nat.le_of_lt (Nat.lt_of_lt_of_le hz (by decide))) (by show X.A.units + 1 + 8 < cLine; omega) ⟨Is.nested I hi rfl, lk_depth l⟩ hD fun h' hm hs => ?_
  obtain ⟨o', es', ep', ho', hx', hd', he', _, _⟩ := hm
  have mu : Mut (H d) := by rw [e]; trivial
  have I' : Inv X pins σ (upd H d (DictN X.prog X.w d (storedH xs (lk l) a (.bool true)))) { s with heap := h', toks := s.toks + (nestedKind X.prog X.w).draws (lk l) } :=
    I.write mu (.inl rfl) (fun b ob hb q => (hs.2 b hb).trans q) ⟨o', ho'⟩ (objOk_dn ⟨sm, o', es', ep', ho', hx', hd', he'⟩)
  have tk : Tk H (upd H d (DictN X.prog X.w d (storedH xs (lk l) a (.bool true)))) := Tk.at e (fun _ z => by cases z) (fun _ _ z => by cases z)
  refine ⟨_, I', q _ (fun B s n => s.out n) tk (fun b hb => upd_ne hb) ?_⟩
  have hk := atKey_mem h1 l
  by_cases hm : l ∈ ls
  · have e2 : addL ls l = ls := if_pos hm
    rw [e2]
    rw [decide_eq_true hm] at hk
    refine ⟨_, upd_same, ?_, h2, ?_⟩
    · unfold storedH
      rw [if_pos hk, List.map_map, ← h1]
      refine List.map_congr_left fun x _ => ?_
      show (putAt (lk l) (Value.bool true) x).1 = x.1
      unfold putAt
      split <;> rfl
    · have e3 : ((storedH xs (lk l) a (Value.bool true)).map fun x => V.ref x.2.1) = xs.map fun x => V.ref x.2.1 := by
        unfold storedH
        rw [if_pos hk, List.map_map]
        refine List.map_congr_left fun x _ => ?_
        show V.ref (putAt (lk l) (Value.bool true) x).2.1 = V.ref x.2.1
        unfold putAt
        split <;> rfl
      rw [e3]
      exact h3.tk tk
  · have e2 : addL ls l = ls ++ [l] := if_neg hm
    rw [e2]
    rw [decide_eq_false hm] at hk
    have e3 : storedH xs (lk l) a (Value.bool true) = xs ++ [(lk l, a, Value.bool true)] := by
      unfold storedH
      rw [if_neg (by rw [hk]; decide)]
    refine ⟨_, upd_same, ?_, ?_, ?_⟩
    · rw [e3, List.map_append, h1, List.map_append]
      rfl
    · rw [List.nodup_append]
      refine ⟨h2, by simp, fun x hx y hy => ?_⟩
      simp only [List.mem_singleton] at hy
      subst hy
      exact fun z => hm (z ▸ hx)
    · rw [e3, List.map_append, List.map_append]
      rw [e3] at tk
      exact (h3.snoc hi).tk tk
/-- list(d) -/
def rListDN (P : Program) (w : World) (K : PySem.W.Frag) : List V → Hp → VK → Prop := fun xs H Q => ∃ d ls, xs = [.ref d] ∧ IsDN P w K H d ls ∧ ls.length < 1000000 ∧ ∀ H' p, Same H H' → H p = none → IsL K H' p (ls.map lot) → Q (.ref p) H'
theorem call_listN (hc : X.calm = true) : CallR X (.type "list") (rListDN X.prog X.w X.K) := by
  intro pins s σ H xs us Q I r h
  obtain ⟨d, ls, rfl, ⟨xs, e, h1, h2, h3⟩, hz, q⟩ := h
  obtain ⟨u, rfl, rx⟩ := r.one
  cases rx
  have hl : xs.length = ls.length := by
    have := congrArg List.length h1
    simpa using this
  have hline : xs.length ≤ sizeLine := by rw [hl]; exact Nat.le_of_lt (Nat.lt_of_lt_of_le hz (by decide))
  obtain ⟨sm, o, es, ep, ho, hx, hd, he, _, _⟩ := IsDN.of I e h1 h2 h3
  have l1 : es.size = xs.length := size_of_entries he
  refine PySem.W.kdl_call (kdl_raw sm hx hd) (I.ok.hd hc) ho (by omega) fun h' tk acc c kp e' it => ?_
  have ea : acc.toList = xs.map fun x => Value.ref x.2.1 := by
    have la : acc.toList.length = xs.length := by rw [Array.length_toList, it.1]; exact l1
    apply List.ext_getElem?
    intro j
    rw [List.getElem?_map]
    by_cases hj : j < xs.length
    · have hj' : j < acc.toList.length := by omega
      obtain ⟨en, hen, hv⟩ := it.2 j acc.toList[j] (by rw [← Array.getElem?_toList, List.getElem?_eq_getElem hj'])
      have qe := entry_at he j
      rw [hen, List.getElem?_eq_getElem hj] at qe
      have e2 : en = entryOfKey (nestedKind X.prog X.w) xs[j] := Option.some.inj qe
      rw [List.getElem?_eq_getElem hj', List.getElem?_eq_getElem hj, hv, e2]
      rfl
    · rw [List.getElem?_eq_none_iff.mpr (by omega), List.getElem?_eq_none_iff.mpr (by omega)]
      rfl
  have eb : acc.toList = (xs.map fun x => x.2.1).map Value.ref := by rw [ea, List.map_map]; rfl
  have rv : Vals ((xs.map fun x => x.2.1).map V.ref) acc.toList := by rw [eb]; exact vals_refs _
  have ex : (xs.map fun x => x.2.1).map V.ref = xs.map fun x => V.ref x.2.1 := by rw [List.map_map]; rfl
  have hlz : ((xs.map fun x => x.2.1).map V.ref).length ≤ sizeLine := by rw [List.length_map, List.length_map]; exact hline
  have np := I.hok.fresh (Nat.le_refl _)
  refine ⟨.ref s.heap.objs.size, _, I.laid (t' := tk) (o := .lst ((xs.map fun x => x.2.1).map V.ref)) kp (Nat.le_refl _) ⟨hlz, acc.toList, c, rv, by rw [Array.toArray_toList]; exact e'⟩, rfl, q _ _ (same_upd np) np ?_⟩
  rw [ex]
  exact IsL.mk np h3
end
end UG
end
section
/-! Unitgrids, rules that the layer lacks: sorted(..) of lists, tuples of nested tuples. -/
namespace UG
open PySem PySem.Spec PyProof.Rows PySem.W L2
/-- all of h stands in h' -/
def Kp (h h' : Heap) : Prop := ∀ b o, h.get? b = some o → h'.get? b = some o
section
variable {P : Program} {w : World} {A : Around} {E : Value → Shared → Prop} {s : Shared}
/-- what is in hand when the items are collected: their values, what they read as, and what is done with the sorted list -/
def Sorts (A : Around) (Q : Value → Shared → Prop) (vs : List Value) (s1 : Shared) : Prop :=
  ∃ bs : List (V × PyData), EachIs (fun v b => RelV b.1 v) vs bs ∧ EachIs (fun v b => ∃ as, Reads s1.heap v b.2 as) vs bs ∧ AllAlike (bs.map Prod.snd) ∧ Sortable (bs.map Prod.snd) ∧ bs.length ≤ sizeLine ∧
    (∀ b, b ∈ bs → A.units + 2 + b.2.depth < cLine) ∧
    ∀ p (out : List Value) c s2, Kp s1.heap s2.heap → s2.gens = s1.gens → s2.os = s1.os → s1.heap.objs.size ≤ p → s2.heap.get? p = some (seqObj "list" out.toArray c) → EachIs (fun v b => RelV b.1 v) out (bs.mergeSort (dataLe false Prod.snd)) → Q (.ref p) s2
theorem sorted_gen {v : Value} {Q : Value → Shared → Prop} (hcol : ∀ E' : Value → Shared → Prop, wpAny (model P w) A.in1 (collect v) (Sorts A Q) E' s) :
    wpAny (model P w) A (call (.builtin "sorted") [v]) Q E s := by
  refine Calls.call_function_entry kind_sorted plain_sorted entry_sorted (args_sorted1 _) ?_
  unfold Builtin.«sorted»
  refine wpAny_bind (m := checkCount "sorted" 1 1 _) (wpAny_pure ?_)
  refine wpAny_bind (wpAny_mono (hcol _) (fun vs s1 h => ?_) fun _ _ z => z)
  obtain ⟨bs, e, er, hal, hso, hL, hu, q⟩ := h
  have hlen : vs.length ≤ sizeLine := by rw [e.length]; exact hL
  refine wpAny_bind (wpAny_newList ?_ hlen)
  have hoL : (s1.heap.push (seqObj "list" vs.toArray 0)).get? s1.heap.objs.size = some (seqObj "list" vs.toArray 0) := Heap.get?_push_size _ rfl
  have k2 : Kp s1.heap (s1.heap.push (seqObj "list" vs.toArray 0)) := fun _ _ z => Heap.get?_push_of_some _ z
  have k3 : Kp s1.heap (sortingHeap (s1.heap.push (seqObj "list" vs.toArray 0)) s1.heap.objs.size vs) := fun b o z => sortingHeap_old (fun x => Nat.lt_irrefl _ (x ▸ Heap.lt_size z)) (k2 b o z)
  have er' : EachIs (fun v b => ∃ as, Reads (sortingHeap (s1.heap.push (seqObj "list" vs.toArray 0)) s1.heap.objs.size vs) v (Prod.snd b) as) vs bs := er.mono fun _ _ ⟨as, r⟩ => ⟨as, PyProof.Rows.Reads.keeps k3 r⟩
  obtain ⟨c, hc⟩ := sortedHeap_at (vs := vs) (out := (sortVals (dataKind (sortingHeap (s1.heap.push (seqObj "list" vs.toArray 0)) s1.heap.objs.size vs) (bs.map Prod.snd)) false vs vs).toArray) hoL
  refine wpAny_bind (wpAny_holding (wpAny_call_entry slot_list_sort ⟨_, hoL, rfl⟩ entry_list_sort
    (list_sort_vals (s := { s1 with heap := s1.heap.push (seqObj "list" vs.toArray 0) }) (κ := dataKind (sortingHeap (s1.heap.push (seqObj "list" vs.toArray 0)) s1.heap.objs.size vs) (bs.map Prod.snd)) hoL
      (SortsAt.data (s := { s1 with heap := sortingHeap (s1.heap.push (seqObj "list" vs.toArray 0)) s1.heap.objs.size vs }) (each_map (R := fun v d => ∃ as, Reads (sortingHeap (s1.heap.push (seqObj "list" vs.toArray 0)) s1.heap.objs.size vs) v d as) Prod.snd er') hal hso (bound_map hu)) hlen
      ⟨.none, rfl, wpAny_pure ⟨_, rfl, ?_⟩⟩) (args_list_sort _)))
  refine q _ _ c _ (fun b o z => ?_) rfl rfl (Nat.le_refl _) hc (sortVals_data false e er' hal)
  rw [sortedHeap_old (fun x => Nat.lt_irrefl _ (x ▸ Heap.lt_size z)) (Heap.lt_size (k2 b o z))]
  exact k2 b o z
end
/-- the lists of data that can be sorted -/
def Srt (n : Nat) (ds : List PyData) : Prop := AllAlike ds ∧ Sortable ds ∧ ds.length < 1000000 ∧ ∀ d ∈ ds, d.depth ≤ n
section
variable {X : Cx} {pins : List (Addr × Obj)} {σ : L2.St} {H : Hp} {s : Shared}
theorem is_each (I : Inv X pins σ H s) : ∀ {xs : List V} {ds : List PyData} {us : List Value}, IsA X.K H xs ds → Vals xs us → ∃ bs : List (V × PyData), bs.map Prod.fst = xs ∧ bs.map Prod.snd = ds ∧ EachIs (fun v b => RelV b.1 v) us bs ∧ EachIs (fun v b => ∃ as, Reads s.heap v b.2 as) us bs ∧ ∀ b ∈ bs, Is X.K H b.1 b.2
  | _, _, _, .nil, .nil => ⟨[], rfl, rfl, .nil, .nil, fun _ h => nomatch h⟩
  | _, _, _, .cons (v := v) (d := d) h a, .cons r t => by
    obtain ⟨bs, e1, e2, e3, e4, e5⟩ := is_each I a t
    refine ⟨(v, d) :: bs, by rw [List.map_cons, e1], by rw [List.map_cons, e2], .cons r e3, .cons (Dp.reads I d v _ h.dp r) e4, fun b hb => ?_⟩
    rcases List.mem_cons.mp hb with rfl | hb
    · exact h
    · exact e5 b hb
theorem isA_of_all {K : PySem.W.Frag} {H : Hp} : ∀ {bs : List (V × PyData)}, (∀ b ∈ bs, Is K H b.1 b.2) → IsA K H (bs.map Prod.fst) (bs.map Prod.snd)
  | [], _ => .nil
  | b :: bs, h => .cons (h b List.mem_cons_self) (isA_of_all fun c hc => h c (List.mem_cons_of_mem _ hc))
theorem vals_of_each : ∀ {us : List Value} {bs : List (V × PyData)}, EachIs (fun v b => RelV b.1 v) us bs → Vals (bs.map Prod.fst) us
  | _, _, .nil => .nil
  | _, _, .cons h t => .cons h (vals_of_each t)
theorem sort_snd (bs : List (V × PyData)) : (bs.mergeSort (dataLe false Prod.snd)).map Prod.snd = (bs.map Prod.snd).mergeSort (dataLe false id) :=
  List.map_mergeSort fun _ _ _ _ => rfl
/-- the items are collected: the layer's end -/
theorem sorts_end (I : Inv X pins σ H s) {s1 : Shared} {xs : List V} {ds : List PyData} {us : List Value} {n : Nat} {Q : VK} (k1 : Kp s.heap s1.heap) (g1 : s1.gens = s.gens) (o1 : s1.os = s.os)
    (a : IsA X.K H xs ds) (r : Vals xs us) (hs : Srt n ds) (hu : X.A.units + 64 < cLine) (hn : n ≤ 32)
    (q : ∀ H' p, Same H H' → H p = none → IsL X.K H' p (ds.mergeSort (dataLe false id)) → Q (.ref p) H') : Sorts X.A (EP X pins σ Q) us s1 := by
  obtain ⟨hal, hso, hl, hd⟩ := hs
  obtain ⟨bs, e1, e2, e3, e4, e5⟩ := is_each I a r
  have hlb : bs.length = ds.length := by rw [← e2, List.length_map]
  refine ⟨bs, e3, e4.mono fun _ _ ⟨as, r⟩ => ⟨as, PyProof.Rows.Reads.keeps k1 r⟩, by rw [e2]; exact hal, by rw [e2]; exact hso, by rw [hlb, sizeLine_eq]; omega, fun b hb => ?_, fun p out c s2 k2 g o hp hg ho => ?_⟩
  · have := hd b.2 (by rw [← e2]; exact List.mem_map.mpr ⟨b, hb, rfl⟩)
    omega
  · have I1 : Inv X pins σ H { s with heap := s1.heap } := I.kept (t' := s.toks) k1
    have hn : H p = none := I1.hok.fresh hp
    have hlen : ((bs.mergeSort (dataLe false Prod.snd)).map Prod.fst).length ≤ sizeLine := by rw [List.length_map, List.length_mergeSort, hlb, sizeLine_eq]; omega
    have J : Inv X pins σ (upd H p (.lst ((bs.mergeSort (dataLe false Prod.snd)).map Prod.fst))) { s with heap := s2.heap, gens := s2.gens, drawn := s2.drawn, toks := s2.toks } :=
      Inv.call (s := { s with heap := s1.heap }) (ch := []) I1 (Un.laid k2 hp hn) (I1.hok.laid k2 hp ⟨hlen, out, c, vals_of_each ho, hg⟩) (by rw [g, g1]; exact I.bare) (fun _ z => nomatch z)
    have e : s2 = { s with heap := s2.heap, gens := s2.gens, drawn := s2.drawn, toks := s2.toks } := by
      rw [o1] at o
      cases s2
      cases s
      cases o
      rfl
    rw [e]
    refine ⟨.ref p, _, J, rfl, q _ p (same_upd hn) hn ?_⟩
    rw [← e2, ← sort_snd]
    exact IsL.mk hn (isA_of_all fun b hb => e5 b (List.mem_mergeSort.mp hb))
/-- sorted(xs), xs a list or a tuple -/
def rSortD (K : PySem.W.Frag) (n : Nat) : List V → Hp → VK → Prop := fun xs H Q => ∃ a ds, xs = [.ref a] ∧ (IsL K H a ds ∨ Is K H (.ref a) (.tuple ds)) ∧ Srt n ds ∧
  ∀ H' p, Same H H' → H p = none → IsL K H' p (ds.mergeSort (dataLe false id)) → Q (.ref p) H'
theorem cr_sortD (n : Nat) (hu : X.A.units + 64 < cLine) (hnn : n ≤ 32 := by decide) : CallR X (.builtin "sorted") (rSortD X.K n) := by
  intro pins s σ H vs us Q I r h
  obtain ⟨a, ds, rfl, hs, hd, q⟩ := h
  rw [Vals.ref1 r]
  refine sorted_gen fun E' => ?_
  rcases hs with hs | hs
  · obtain ⟨xs, hl, ha⟩ := hs.sq
    obtain ⟨its, rv, hp, hz⟩ := I.list hl
    obtain ⟨o, ho, hc, m, hdt⟩ := hp.isList
    refine wpAny_collect_seq a (.inl rfl) ho hc hdt (fun h' hk => ?_) (by rw [List.size_toArray, ← rv.length]; exact hz)
    exact sorts_end I hk rfl rfl ha rv hd hu hnn q
  · obtain ⟨b, xs, e, hl, ha⟩ := hs.tup_ex
    cases e
    obtain ⟨its, rv, ⟨o, ho, hc, m, hdt⟩, hz⟩ := I.tuple hl
    refine wpAny_collect_seq a (.inr rfl) ho hc hdt (fun h' hk => ?_) (by rw [List.size_toArray, ← rv.length]; exact hz)
    exact sorts_end I hk rfl rfl ha rv hd hu hnn q
end
end UG
end
section
/-! Unitgrids: sorted lots, the least lot, in plain words. -/
namespace UG
open PySem PySem.Spec PyProof.Rows PySem.W L2 UL
theorem alike_pr (p q : C) : alike (pr p) (pr q) = true := by unfold pr; simp [alike, alikeAll]
theorem alike_lots : ∀ a b : List C, alikeAll (a.map pr) (b.map pr) = true
  | [], _ => by simp [alikeAll]
  | _ :: _, [] => by simp [alikeAll]
  | x :: xs, y :: ys => by
    rw [List.map_cons, List.map_cons, alikeAll, alike_pr, alike_lots xs ys]
    rfl
theorem depth_pr (p : C) : (pr p).depth = 1 := by unfold pr; simp [PyData.depth, PyData.depthAll]
theorem depth_prs : ∀ l : List C, PyData.depthAll (l.map pr) ≤ 1
  | [] => by simp [PyData.depthAll]
  | x :: l => by
    rw [List.map_cons, PyData.depthAll, depth_pr]
    have := depth_prs l
    omega
theorem depth_lot (l : List C) : (lot l).depth ≤ 2 := by
  unfold lot
  rw [PyData.depth]
  have := depth_prs l
  omega
/-- pairs can be sorted -/
theorem srt_prs {l : List C} (h : l.length < 1000000) : Srt 2 (l.map pr) := by
  refine ⟨AllAlike.of alike_pr, Sortable.tuples fun p => ⟨_, _, rfl⟩, by rw [List.length_map]; exact h, fun d hd => ?_⟩
  obtain ⟨p, _, rfl⟩ := List.mem_map.mp hd
  rw [depth_pr]
  omega
/-- lots with a cell at least can be sorted -/
theorem srt_lots {L : List (List C)} (h : L.length < 1000000) (ne : ∀ l ∈ L, l ≠ []) : Srt 2 (L.map lot) := by
  refine ⟨AllAlike.of fun a b => ?_, .inl fun d hd => ?_, by rw [List.length_map]; exact h, fun d hd => ?_⟩
  · unfold lot
    rw [alike]
    exact alike_lots a b
  · obtain ⟨l, hl, rfl⟩ := List.mem_map.mp hd
    cases l with
    | nil => exact absurd rfl (ne _ hl)
    | cons x l => exact ⟨_, _, rfl⟩
  · obtain ⟨l, _, rfl⟩ := List.mem_map.mp hd
    exact depth_lot l
/-- cells in order -/
def cle (p q : C) : Bool := decide (p.1 < q.1 ∨ (p.1 = q.1 ∧ p.2 ≤ q.2))
theorem sort_prs (l : List C) : (l.map pr).mergeSort (dataLe false id) = (l.mergeSort cle).map pr := by
  refine (List.map_mergeSort fun a _ b _ => ?_).symm
  have := congrFun (congrFun (dataLe_ii (β := C) (fun p => p.1) (fun p => p.2)) a) b
  unfold cle
  exact this.symm
theorem sort_asc {l : List C} (h : l.Nodup) : Asc (l.mergeSort cle) := by
  have hs : (l.mergeSort cle).Pairwise (fun a b => cle a b = true) := List.pairwise_mergeSort (fun a b c h1 h2 => by unfold cle at *; simp only [decide_eq_true_eq] at *; omega) (fun a b => by unfold cle; simp only [Bool.or_eq_true, decide_eq_true_eq]; omega) l
  have hn : (l.mergeSort cle).Nodup := (List.mergeSort_perm l cle).nodup_iff.mpr h
  refine List.Pairwise.imp (fun {a b} h => ?_) (hs.and hn)
  obtain ⟨h1, h2⟩ := h
  unfold cle at h1
  simp only [decide_eq_true_eq] at h1
  unfold clt
  rcases h1 with h1 | ⟨h1, h3⟩
  · exact .inl h1
  · refine .inr ⟨h1, ?_⟩
    rcases Int.lt_or_eq_of_le h3 with z | z
    · exact z
    · exact absurd (Prod.ext h1 z) h2
theorem sort_lots (L : List (List C)) : ∃ L' : List (List C), (L.map lot).mergeSort (dataLe false id) = L'.map lot ∧ L'.Perm L := by
  refine ⟨L.mergeSort fun a b => dataLe false id (lot a) (lot b), (List.map_mergeSort (f := lot) (s := dataLe false id) fun a _ b _ => rfl).symm, List.mergeSort_perm _ _⟩
/-- the least -/
theorem lt_llt : ∀ a b : List C, listLt a b = true ↔ llt a b
  | [], [] => by simp [listLt, llt]
  | [], y :: ys => by simp [listLt, llt]
  | x :: xs, [] => by simp [listLt, llt]
  | x :: xs, y :: ys => by
    rw [listLt, llt]
    by_cases h : x = y
    · subst h
      rw [if_pos rfl, lt_llt xs ys]
      refine ⟨fun z => .inr ⟨rfl, z⟩, fun z => z.elim (fun q => absurd q (clt_irr x)) fun q => q.2⟩
    · rw [if_neg h]
      have e : DatumOrd.lt x y = true ↔ clt x y := by
        show (if x.1 = y.1 then decide (x.2 < y.2) else decide (x.1 < y.1)) = true ↔ _
        unfold clt
        by_cases h1 : x.1 = y.1
        · rw [if_pos h1, decide_eq_true_eq]
          omega
        · rw [if_neg h1, decide_eq_true_eq]
          omega
      rw [e]
      exact ⟨.inl, fun z => z.elim id fun q => absurd q.1 h⟩
end UG
end
section
/-! Unitgrids: what least_lot's loops keep, in plain words. -/
namespace UG
open PySem PySem.Spec PyProof.Rows L2 UL
/-- what is known behind the first i lots of a layer -/
structure LaterOk (f : Fam) (lay : List (List C)) (i : Nat) (lk : List C → List C) (ens ls : List (List C)) : Prop where
  ense : ∀ S, S ∈ ens ↔ S ∈ lay.take i ∧ enough f S
  look : ∀ S ∈ lay.take i, ∃ b, Look f S b (lk S)
  later : ∀ T, T ∈ ls ↔ ∃ S ∈ lay.take i, ∃ x ∈ lk S, Asc T ∧ T.Perm (S ++ [x])
  elen : ens.length ≤ i
  llen : ls.length ≤ 20 * i
theorem LaterOk.zero (f : Fam) (lay : List (List C)) : LaterOk f lay 0 (fun _ => []) [] [] := ⟨fun S => by simp, fun S h => by simp at h, fun T => by simp, Nat.le_refl _, Nat.le_refl _⟩
theorem look_enough {f : Fam} {S cs : List C} {b : Bool} (h : Look f S b cs) : b = true ↔ enough f S := by
  cases h with
  | yes e => exact ⟨fun _ => e, fun _ => rfl⟩
  | nought e =>
    exact ⟨(fun z => nomatch z), fun ⟨⟨l, u, h1, h2⟩, _⟩ => absurd h2 (e l u h1)⟩
  | two h1 h2 a1 a2 ne => exact ⟨(fun z => nomatch z), fun ⟨_, h⟩ => absurd (h _ _ _ _ h1 h2 a1 a2) ne⟩
theorem look_out {f : Fam} {S cs : List C} {b : Bool} (h : Look f S b cs) : ∀ x ∈ cs, x ∉ S := by
  cases h with
  | yes e => simp
  | nought e => simp
  | two h1 h2 a1 a2 ne =>
    intro x hx
    rcases List.mem_append.mp hx with z | z
    · exact a1 x z
    · exact a2 x z
theorem pcs_len (n : Nat) (q : Nat → Nat) : (pcs n q).length = n := by unfold pcs; simp
theorem look_len {n b : Nat} {g : Gd} {S cs : List C} {bb : Bool} (hn : n ≤ 10) (h : Look (gf n b g) S bb cs) : cs.length ≤ 20 := by
  cases h with
  | yes e => simp
  | nought e => simp
  | two h1 h2 a1 a2 ne =>
    obtain ⟨q1, _, rfl, _⟩ := h1
    obtain ⟨q2, _, rfl, _⟩ := h2
    rw [List.length_append, pcs_len, pcs_len]
    omega
theorem LaterOk.next {f : Fam} {lay : List (List C)} {i : Nat} {lk : List C → List C} {ens ls ens' ls' : List (List C)} {S cs : List C} {b : Bool} (h : LaterOk f lay i lk ens ls) (hnd : lay.Nodup) (hS : lay[i]? = some S) (hl : Look f S b cs) (hc : cs.length ≤ 20)
    (he : ens' = if b = true then ens ++ [S] else ens) (h' : ∀ T, T ∈ ls' ↔ T ∈ ls ∨ ∃ x ∈ cs, Asc T ∧ T.Perm (S ++ [x])) (hlen : ls'.length ≤ ls.length + cs.length) : LaterOk f lay (i + 1) (fun S' => if S' = S then cs else lk S') ens' ls' := by
  have ht : lay.take (i + 1) = lay.take i ++ [S] := by rw [List.take_succ, hS]; rfl
  have hn : S ∉ lay.take i := by
    have := hnd.sublist (List.take_sublist (i + 1) lay)
    rw [ht, List.nodup_append] at this
    exact fun z => this.2.2 S z S (by simp) rfl
  have ne : ∀ S' ∈ lay.take i, S' ≠ S := fun S' h1 e => hn (e ▸ h1)
  refine ⟨fun S' => ?_, fun S' h1 => ?_, fun T => ?_, ?_, ?_⟩
  · rw [ht, List.mem_append, List.mem_singleton, he]
    by_cases hb : b = true
    · rw [if_pos hb, List.mem_append, List.mem_singleton, h.ense]
      constructor
      · rintro (⟨h1, h2⟩ | rfl)
        · exact ⟨.inl h1, h2⟩
        · exact ⟨.inr rfl, (look_enough hl).mp hb⟩
      · rintro ⟨h1 | rfl, h2⟩
        · exact .inl ⟨h1, h2⟩
        · exact .inr rfl
    · rw [if_neg hb, h.ense]
      constructor
      · exact fun ⟨h1, h2⟩ => ⟨.inl h1, h2⟩
      · rintro ⟨h1 | rfl, h2⟩
        · exact ⟨h1, h2⟩
        · exact absurd ((look_enough hl).mpr h2) hb
  · rw [ht, List.mem_append, List.mem_singleton] at h1
    rcases h1 with h1 | rfl
    · rw [if_neg (ne S' h1)]
      exact h.look S' h1
    · rw [if_pos rfl]
      exact ⟨b, hl⟩
  · rw [h' T, h.later T, ht]
    constructor
    · rintro (⟨S', h1, x, h2, h3⟩ | ⟨x, h2, h3⟩)
      · exact ⟨S', List.mem_append_left _ h1, x, by rw [if_neg (ne S' h1)]; exact h2, h3⟩
      · exact ⟨S, by simp, x, by rw [if_pos rfl]; exact h2, h3⟩
    · rintro ⟨S', h1, x, h2, h3⟩
      rcases List.mem_append.mp h1 with h1 | h1
      · rw [if_neg (ne S' h1)] at h2
        exact .inl ⟨S', h1, x, h2, h3⟩
      · rw [List.mem_singleton] at h1
        subst h1
        rw [if_pos rfl] at h2
        exact .inr ⟨x, h2, h3⟩
  · rw [he]
    have := h.elen
    split
    · rw [List.length_append]; simp; omega
    · omega
  · have := h.llen
    omega
/-- one more cell's lot among the later ones -/
def In3 (S cs : List C) (ls0 : List (List C)) (j : Nat) (ls : List (List C)) : Prop := (∀ T, T ∈ ls ↔ T ∈ ls0 ∨ ∃ x ∈ cs.take j, Asc T ∧ T.Perm (S ++ [x])) ∧ ls.length ≤ ls0.length + j
theorem In3.zero (S cs : List C) (ls0 : List (List C)) : In3 S cs ls0 0 ls0 := ⟨fun T => by simp, Nat.le_refl _⟩
theorem lot_one {S : List C} {x : C} (hS : Asc S) (hx : x ∉ S) (T : List C) : (Asc T ∧ T.Perm (S ++ [x])) ↔ T = (S ++ [x]).mergeSort cle := by
  have hn : (S ++ [x]).Nodup := List.nodup_append.mpr ⟨asc_nodup hS, by simp, fun a ha b hb e => by
    rw [List.mem_singleton] at hb
    exact hx (hb ▸ e ▸ ha)⟩
  constructor
  · rintro ⟨h1, h2⟩
    exact asc_ext h1 (sort_asc hn) fun y => by rw [h2.mem_iff, (List.mergeSort_perm _ _).mem_iff]
  · rintro rfl
    exact ⟨sort_asc hn, List.mergeSort_perm _ _⟩
theorem In3.next {S cs : List C} {ls0 ls : List (List C)} {j : Nat} {x : C} (h : In3 S cs ls0 j ls) (hj : cs[j]? = some x) (hS : Asc S) (hx : x ∉ S) : In3 S cs ls0 (j + 1) (addL ls ((S ++ [x]).mergeSort cle)) := by
  refine ⟨fun T => ?_, ?_⟩
  · rw [mem_addL, h.1 T, List.take_succ, hj]
    constructor
    · rintro ((h1 | ⟨y, h1, h2⟩) | rfl)
      · exact .inl h1
      · exact .inr ⟨y, List.mem_append_left _ h1, h2⟩
      · exact .inr ⟨x, by simp, (lot_one hS hx _).mpr rfl⟩
    · rintro (h1 | ⟨y, h1, h2⟩)
      · exact .inl (.inl h1)
      · rcases List.mem_append.mp h1 with h1 | h1
        · exact .inl (.inr ⟨y, h1, h2⟩)
        · simp only [Option.toList_some, List.mem_singleton] at h1
          subst h1
          exact .inr ((lot_one hS hx _).mp h2)
  · have := h.2
    unfold addL
    split
    · omega
    · rw [List.length_append]; simp; omega
end UG
end
section
/-! Unitgrids: least_lot, whose look is the def within fewest_struck. -/
namespace UG
open PySem PySem.Spec PyProof.Rows L2 RZ UM UL NdefX
abbrev n_least_lot : List Str := ["look", "most", "layer", "size", "enough", "later", "lot", "is_enough", "cells", "item"]
theorem sc_least_lot : FnScope n_least_lot ["look", "most"] (defScope s_least_lot) := ⟨rfl, rfl, rfl, by decide +kernel, rfl, by decide +kernel, by decide +kernel⟩
section
variable {P : Program} {w : World} {K : PySem.W.Frag} {mg : Str → Option Value} {base : Heap}
/-- what least_lot gives -/
def LeastV (K : PySem.W.Frag) (H : Hp) (f : Fam) (most : Nat) (v : V) : Prop := (v = .non ∧ Due f most none) ∨ ∃ S, Is K H v (lot S) ∧ Due f most (some S)
theorem r_appB {H : Hp} {Q : VK} {l : Addr} {ds : List PyData} {v : V} {d : PyData} (h : IsL K H l ds) (hv : Is K H v d) (hz : ds.length < 1000000) (q : ∀ H', (∀ B, Same B H → B l = none → Same B H') → (∀ b, b ≠ l → H' b = H b) → IsL K H' l (ds ++ [d]) → Tk H H' → Q .non H') : rAppend (.ref l) [v] H Q := by
  obtain ⟨xs, e, ha⟩ := h
  exact ⟨l, xs, _, rfl, rfl, e, by rw [ha.length, sizeLine_eq]; omega, q _ (fun B s n => s.out n) (fun b hb => upd_ne hb) (IsL.put e (ha.snoc hv)) (Tk.lst e)⟩
theorem gSq {K : PySem.W.Frag} {H : Hp} {σ : L2.St} {i j : Nat} {T : Addr} {v w : V} {k : L2.St → Hp → Prop} (h : SqT K H T [v, w]) (q : k ((σ.set i (some v)).set j (some w)) H) : gTup K 2 (gCons (gName i) (gCons (gName j) gNil)) (.ref T) σ H k :=
  ⟨T, [v, w], rfl, h, rfl, v, [w], rfl, w, [], rfl, rfl, q⟩
theorem one_le1 (x : V) : [x].length ≤ sizeLine := by show 1 ≤ sizeLine; decide
theorem live_in {n b : Nat} {g : Gd} {x : C} (h : live (gf n b g) x) : 0 ≤ x.1 ∧ x.1 < n ∧ 0 ≤ x.2 ∧ x.2 < n := by
  obtain ⟨l, u, ⟨q, hq, rfl, rfl⟩, hx⟩ := h
  obtain ⟨i, hi, rfl⟩ := mem_pcs.mp hx
  have := (hq.at_ i hi).2.1
  refine ⟨?_, ?_, ?_, ?_⟩
  · show (0 : Int) ≤ (i : Nat); omega
  · show ((i : Nat) : Int) < n; omega
  · show (0 : Int) ≤ (q i : Nat); omega
  · show ((q i : Nat) : Int) < n; omega
theorem least_body (T : Txt K mg) {fa f : Addr} {cdv : Value} {A : Around} {outer : List Env} {s : Shared} {H : Hp} {Q : VK} {E : XK} {F : NF} {gv : V} {b : Nat} {g : Gd} {most : Nat} (hr : Room 17 (A.deeper (envOfC "least_lot" (defScope s_least_lot) s.heap.objs.size fa cdv)))
    (Fn : NOk P w K mg base CX0 17 f F ["lot"] ["grid"] (sp_look K)) (C0 : CellsAt F.cl ["grid"] [some gv] s.heap H) (nf : ∀ y c, F.cl.lookup y = some c → c ∉ frs outer) (hf : H f = some (FnO f F)) (hc : H F.c = some (LamX.CodeO F.c F.qual)) (hg : IsG K H gv b g) (ok : OkG b g) (hm : most ≤ 3)
    (q : ∀ H' v, Same H H' → LeastV K H' (gf g.length b g) most v → Q v H') :
    ∃ t, PSs (cxOf CX0 P w K mg base n_least_lot "least_lot" (defScope s_least_lot) fa cdv A outer s H E).nox (defBody s_least_lot) t ∧ t { nx := fun _ H' => Q .non H', rt := Q } (start n_least_lot [.ref f, .int (most : Nat)]) H := by
  refine ⟨_, (pss_cons (ps_set (i := 2) sc_least_lot.nd rfl (.inl rfl) (pe_lst (pa_cons (pe_tup pa_nil) pa_nil)))
    (pss_cons (ps_for PassesOwn.never rfl (pi_range1 rfl T.b_range (pa_cons (pe_op op_add (pv 1) pe_int) pa_nil)) (pg_name (i := 3) sc_least_lot.nd rfl (.inl rfl))
      (pss_cons (ps_par (i := 4) (j := 5) rfl sc_least_lot.nd rfl rfl (by decide) rfl rfl (pa_cons (pe_lst pa_nil) (pa_cons (pe_dnewN) pa_nil)) (by rfl))
      (pss_cons (ps_for PassesOwn.never rfl (pi_list (pv 2)) (pg_name (i := 6) sc_least_lot.nd rfl (.inl rfl))
        (pss_cons (ps_asg (pe_look (i := 0) Fn C0 nf rfl hr (Nat.le_refl _) rfl (.inl rfl) (pa_cons (pv 6) pa_nil)) (by refine pg2 (i := 7) (j := 8) K rfl sc_least_lot.nd ?_ ?_ ?_ ?_ ?_ ?_ ?_ <;> first | rfl | exact .inl rfl | exact .inr rfl))
        (pss_cons (ps_if (pt_val (pv 7))
          (pss_one (ps_expr (pe_bm PySem.F.plainAttrs_list PySem.F.slot_list_append PySem.F.type_list_append mt_append (pv 4) (pa_cons (pv 6) pa_nil))))
          pss_nil)
        (pss_one (ps_for PassesOwn.never rfl (pi_list (pv 8)) (pg_name (i := 9) sc_least_lot.nd rfl (.inl rfl))
          (pss_one (ps_asg pe_bl (pg_sub (pv 5) (pe_callTy call_tuple_of (by rfl) T.b_tuple bt_tuple (pa_cons (pe_callB (cr_sortD 2 hr.units) (by rfl) T.b_sorted bt_sorted (pa_cons (pe_op op_catA (pv 6) (pe_tup (pa_cons (pv 9) pa_nil))) pa_nil)) pa_nil)) (set_dN hr.units)))))))))
      (pss_cons (ps_if (pt_cmpR op_gt (pe_callB call_lenO (by rfl) T.b_len bt_len (pa_cons (pv 4) pa_nil)) pe_int (nomark _))
        (pss_one (ps_ret (pe_callB (cr_minD (PySem.W.Tup (Int × Int)) (by decide) rfl hr.units) (by rfl) T.b_min bt_min (pa_cons (pv 4) pa_nil))))
        pss_nil)
      (pss_one (ps_set (i := 2) sc_least_lot.nd rfl (.inl rfl) (pe_callB (cr_sortD 2 hr.units) (by rfl) T.b_sorted bt_sorted (pa_cons (pe_callTy (call_listN rfl) (by rfl) T.b_list bt_list (pa_cons (pv 5) pa_nil)) pa_nil))))))))
    (pss_one (ps_ret pe_non)))), ?_⟩
  dsimp only [tVar, tC, tAdd, tSub, tMul, t2I, tCmp, tIsN, tNotN, tB, tAnd, tOr, tNot, tAndV, tOrV, tNotV, tIf, tSeq, tNext, tDrop, tRet, tRetN, tIfS, tAsg, tAug, tPar, gName, gNil, gCons, gSub, tOp, tUn, tTest, tChain, tCons, tNil, tTup, tLst, tCall, tCB, tMake, tFld, sFld, tNoPart, tPart, tSl, tBM, tBM0, rI0, rI, tYes, Cx.nox, Cx.blk, cxOf, List.nil_append, List.cons_append]
  refine ⟨Nat.zero_le _, fun p hp => ⟨one_le1 _, fun L hL => ?_⟩⟩
  have hpL : p ≠ L := fun e => by rw [← e, upd_same] at hL; cases hL
  have hL0 : H L = none := by rw [upd_ne (Ne.symm hpL)] at hL; exact hL
  have s0 : Same H (upd (upd H p (.tup [])) L (.lst [.ref p])) := (same_upd hp).trans (same_upd hL)
  have hIL0 : IsL K (upd (upd H p (.tup [])) L (.lst [.ref p])) L ([[]].map lot) := IsL.mk hL (.cons (Is.mk hp .nil) .nil)
  have hfin : ∀ x : C, live (gf g.length b g) x → 0 ≤ x.1 ∧ x.1 < g.length ∧ 0 ≤ x.2 ∧ x.2 < g.length := fun x hx => live_in hx
  refine forF (B := H) (feedR 0 (most + 1)) (fun R r => ⟨_, rfl, _, _, rfl, rfl, most + 1, rfl, by omega, by omega, r⟩)
    (fun k σ H' => (∃ L y3 y4 y5 y6 y7 y8 y9, ∃ lay : List (List C), σ = [some (.ref f), some (.int (most : Nat)), some (.ref L), y3, y4, y5, y6, y7, y8, y9] ∧ IsL K H' L (lay.map lot) ∧ Layer (gf g.length b g) k lay ∧ lay.Nodup ∧ lay.length ≤ 20 ^ k) ∧ Same H H')
    ⟨⟨L, _, _, _, _, _, _, _, [[]], rfl, hIL0, layer0 _, by simp, by simp⟩, s0⟩ (fun _ _ _ h => h.2) (fun k x σ H1 H2 hk hP s it => ?_) (fun σ H1 hP => ?_)
  · obtain ⟨⟨L, y3, y4, y5, y6, y7, y8, y9, lay, rfl, hlay, hLay, hnd, hsz⟩, s1⟩ := hP
    rw [it]
    dsimp only [tVar, tC, tAdd, tSub, tMul, t2I, tCmp, tIsN, tNotN, tB, tAnd, tOr, tNot, tAndV, tOrV, tNotV, tIf, tSeq, tNext, tDrop, tRet, tRetN, tIfS, tAsg, tAug, tPar, gName, gNil, gCons, gSub, tOp, tUn, tTest, tChain, tCons, tNil, tTup, tLst, tCall, tCB, tMake, tFld, sFld, tNoPart, tPart, tSl, tBM, tBM0, rI0, rI, tYes, Cx.nox, Cx.blk, cxOf, List.nil_append, List.cons_append]
    refine ⟨Nat.zero_le _, fun en hen d hd => ⟨_, _, rfl, ?_⟩⟩
    have s12 := s1.trans s
    have hed : en ≠ d := fun e => by rw [← e, upd_same] at hd; cases hd
    have hd2 : H2 d = none := by rw [upd_ne (Ne.symm hed)] at hd; exact hd
    have hLay2 := hlay.same s
    obtain ⟨xs, hx1, hx2⟩ := hLay2.sq
    have hxl : xs.length = lay.length := by rw [hx2.length, List.length_map]
    have hlow : lay.length ≤ 8000 := Nat.le_trans hsz (by
      have : k ≤ 3 := by omega
      match k, this with
      | 0, _ => decide
      | 1, _ => decide
      | 2, _ => decide
      | 3, _ => decide)
    refine forF (B := H2) (feedL hx1) (fun R r => ⟨_, rfl, L, rfl, ⟨xs, ((same_upd hen).trans (same_upd hd)).seq hx1⟩, r⟩)
      (fun i σ H' => (∃ y6 y7 y8 y9, ∃ (lk : List C → List C) (ens ls : List (List C)), σ = [some (.ref f), some (.int (most : Nat)), some (.ref L), some (.int (0 + (k : Nat))), some (.ref en), some (.ref d), y6, y7, y8, y9] ∧ IsL K H' en (ens.map lot) ∧ IsDN P w K H' d ls ∧ LaterOk (gf g.length b g) lay i lk ens ls) ∧ Same H2 H')
      ⟨⟨_, _, _, _, fun _ => [], [], [], rfl, (IsL.mk hen .nil).same (same_upd hd), IsDN.new, LaterOk.zero _ _⟩, (same_upd hen).trans (same_upd hd)⟩ (fun _ _ _ h => h.2) (fun i x σ H3 H4 hi hP s3 it => ?_) (fun σ H3 hP => ?_)
    · obtain ⟨⟨y6, y7, y8, y9, lk, ens, ls, rfl, hen3, hd3, hok⟩, s23⟩ := hP
      obtain ⟨S, hS, hSv⟩ := hx2.getM' it
      have hSm : S ∈ lay := List.mem_of_getElem? hS
      have hS4 : Is K H4 x (lot S) := hSv.same (s23.trans s3)
      have s04 : Same H H4 := s12.trans (s23.trans s3)
      have hSI : InG g.length S := fun c hc => hfin c ((hLay.lot S hSm).1.live c hc)
      have hSl : S.length ≤ 3 := by rw [(hLay.lot S hSm).2]; omega
      dsimp only [tVar, tC, tAdd, tSub, tMul, t2I, tCmp, tIsN, tNotN, tB, tAnd, tOr, tNot, tAndV, tOrV, tNotV, tIf, tSeq, tNext, tDrop, tRet, tRetN, tIfS, tAsg, tAug, tPar, gName, gNil, gCons, gSub, tOp, tUn, tTest, tChain, tCons, tNil, tTup, tLst, tCall, tCB, tMake, tFld, sFld, tNoPart, tPart, tSl, tBM, tBM0, rI0, rI, tYes, Cx.nox, Cx.blk, cxOf, List.nil_append, List.cons_append]
      refine ⟨rfl, s04 _ _ hf, _, rfl, s04 _ _ hf, s04 _ _ hc, gv, x, rfl, rfl, b, g, S, hg.same s04, ok, hS4, hSI, by omega, fun H5 v bb cs s5 hv hk => ?_⟩
      obtain ⟨T5, cl, rfl, hcn, ht5, hcl⟩ := hv
      refine gSq ht5 ?_
      dsimp only [tVar, tC, tAdd, tSub, tMul, t2I, tCmp, tIsN, tNotN, tB, tAnd, tOr, tNot, tAndV, tOrV, tNotV, tIf, tSeq, tNext, tDrop, tRet, tRetN, tIfS, tAsg, tAug, tPar, gName, gNil, gCons, gSub, tOp, tUn, tTest, tChain, tCons, tNil, tTup, tLst, tCall, tCB, tMake, tFld, sFld, tNoPart, tPart, tSl, tBM, tBM0, rI0, rI, tYes, Cx.nox, Cx.blk, cxOf, List.nil_append, List.cons_append]
      have hin : ∀ c ∈ cs, c ∉ S := look_out hk
      have hcl20 := look_len ok.n2 hk
      have s35 := s3.trans s5
      -- the lots that are enough
      have hd5 : IsDN P w K H5 d ls := hd3.same s35
      have hen5 : IsL K H5 en (ens.map lot) := hen3.same s35
      have hcen : cl ≠ en := fun e => by
        obtain ⟨_, z, _⟩ := hen3.same s3
        rw [← e, hcn] at z
        cases z
      have hcd : cl ≠ d := fun e => by
        obtain ⟨_, z, _⟩ := hd3.same s3
        rw [← e, hcn] at z
        cases z
      obtain ⟨cxs, hcx, hca⟩ := hcl
      have hcxl : cxs.length = cs.length := by rw [hca.length, List.length_map]
      have fin : ∀ (D : Ends) H6 ens', D.nx = (fun σ H' => (∃ y6 y7 y8 y9, ∃ (lk : List C → List C) (ens ls : List (List C)), σ = [some (.ref f), some (.int (most : Nat)), some (.ref L), some (.int (0 + (k : Nat))), some (.ref en), some (.ref d), y6, y7, y8, y9] ∧ IsL K H' en (ens.map lot) ∧ IsDN P w K H' d ls ∧ LaterOk (gf g.length b g) lay (i + 1) lk ens ls) ∧ Same H2 H') →
          (∀ B, Same B H5 → B en = none → Same B H6) → (∀ b, b ≠ en → H6 b = H5 b) → Tk H5 H6 → IsL K H6 en (ens'.map lot) → ens' = (if bb = true then ens ++ [S] else ens) →
        tFor (iList K (tVar 8)) (gName 9)
            (tAsg (tC (V.bl true))
              (gSub (tVar 5)
                (tCB
                  (fun xs H Q =>
                    ∃ p ys,
                      xs = [V.ref p] ∧
                        ((SqL K H p ys ∧ ∀ (l : Addr), H l = none → Q (V.ref l) (upd H l (HO.tup ys))) ∨
                          SqT K H p ys ∧ Q (V.ref p) H))
                  (tCons (tCB (rSortD K 2) (tCons (tOp (rCatA K) (tVar 6) (tTup (tCons (tVar 9) tNil))) tNil)) tNil))
                (rSetDN P w K))) D
          [some (V.ref f), some (V.int (most : Nat)), some (V.ref L), some (V.int (0 + (k : Nat))), some (V.ref en), some (V.ref d), some x, some (.bl bb), some (.ref cl), y9] H6 := by
        intro D H6 ens' hD hS6 hne tk56 hen6 hens'
        have hd6 : IsDN P w K H6 d ls := let ⟨zs, z1, z2, z3, z4⟩ := hd5; ⟨zs, by rw [hne d (Ne.symm hed)]; exact z1, z2, z3, z4.tk tk56⟩
        have hc6 : H6 cl = some (.lst cxs) := by rw [hne cl hcen]; exact hcx
        have hS6v : Is K H6 x (lot S) := (hS4.same s5).tk tk56
        have s26 : Same H2 H6 := hS6 H2 (s23.trans s35) hen
        have hB3c : (fun a => if a = d ∨ a = en then none else H6 a : Hp) cl = some (.lst cxs) := by
          show (if cl = d ∨ cl = en then none else H6 cl) = _
          rw [if_neg (fun z => z.elim hcd hcen)]
          exact hc6
        have hB3d : (fun a => if a = d ∨ a = en then none else H6 a : Hp) d = none := if_pos (.inl rfl)
        have hB36 : Same (fun a => if a = d ∨ a = en then none else H6 a : Hp) H6 := fun a o z => by
          have z : (if a = d ∨ a = en then none else H6 a) = some o := z
          split at z
          · cases z
          · exact z
        generalize hB : (fun a => if a = d ∨ a = en then none else H6 a : Hp) = B3 at hB3c hB3d hB36
        refine forF (B := B3) (feedL (SqL.of hB3c)) (fun R r => ⟨_, rfl, cl, rfl, ⟨cxs, SqL.of hc6⟩, r⟩)
          (fun j σ H' => (∃ y9, ∃ ls' : List (List C), σ = [some (.ref f), some (.int (most : Nat)), some (.ref L), some (.int (0 + (k : Nat))), some (.ref en), some (.ref d), some x, some (.bl bb), some (.ref cl), y9] ∧ IsDN P w K H' d ls' ∧ In3 S cs ls j ls') ∧ Same B3 H' ∧ H' en = H6 en ∧ Tk H6 H' ∧ Same H2 H')
          ⟨⟨_, ls, rfl, hd6, In3.zero _ _ _⟩, hB36, rfl, Tk.refl _, s26⟩ (fun _ _ _ h => h.2.1) (fun j z σ H7 H8 hj hP s78 it => ?_) (fun σ H7 hP => ?_)
        · obtain ⟨⟨y9', ls', rfl, hd7, h3⟩, sB, hen7, tk67, s27⟩ := hP
          obtain ⟨c, hc1, hcv⟩ := hca.getM' it
          dsimp only [tVar, tC, tAdd, tSub, tMul, t2I, tCmp, tIsN, tNotN, tB, tAnd, tOr, tNot, tAndV, tOrV, tNotV, tIf, tSeq, tNext, tDrop, tRet, tRetN, tIfS, tAsg, tAug, tPar, gName, gNil, gCons, gSub, tOp, tUn, tTest, tChain, tCons, tNil, tTup, tLst, tCall, tCB, tMake, tFld, sFld, tNoPart, tPart, tSl, tBM, tBM0, rI0, rI, tYes, Cx.nox, Cx.blk, cxOf, List.nil_append, List.cons_append]
          have tk68 : Tk H6 H8 := tk67.trans (Tk.same s78)
          have hS8 : Is K H8 x (lot S) := hS6v.tk tk68
          have hc8 : Is K H8 z (pr c) := (hcv.tk tk56).tk tk68
          have hj20 : j < 20 := by omega
          have hlt : ls'.length < 1000000 := by
            have := h3.2
            have := hok.llen
            have : i < 8000 := by omega
            omega
          refine ⟨_, rfl, _, rfl, _, rfl, one_le1 _, fun p1 hp1 => ?_⟩
          refine r_cat (ds := S.map pr) (es := [pr c]) (hS8.same (same_upd hp1)) (Is.mk hp1 (.one hc8)) (by rw [List.length_map, sizeLine_eq]; simp; omega) fun H9 v9 s9 h9 => ?_
          obtain ⟨a9, xs9, rfl, _, _⟩ := id h9.tup_ex
          have e9 : S.map pr ++ [pr c] = (S ++ [c]).map pr := by rw [List.map_append]; rfl
          rw [e9] at h9
          refine ⟨a9, (S ++ [c]).map pr, rfl, .inr h9, srt_prs (by rw [List.length_append]; simp; omega), fun H10 p10 s10 n10 h10 => ?_⟩
          rw [sort_prs] at h10
          obtain ⟨ys, hy1, hy2⟩ := h10
          refine ⟨p10, ys, rfl, .inl ⟨SqL.of hy1, fun l hl => ?_⟩⟩
          have s8b : Same H8 (upd H10 l (.tup ys)) := (same_upd hp1).trans (s9.trans (s10.trans (same_upd hl)))
          refine ⟨d, ls', (S ++ [c]).mergeSort cle, rfl, hd7.same (s78.trans s8b), Is.mk hl hy2, hlt, rfl, fun H11 hS11 tk11 hne11 hd11 => ⟨⟨_, _, rfl, hd11, h3.next hc1 (hLay.lot S hSm).1.asc (hin c (List.mem_of_getElem? hc1))⟩, hS11 B3 (sB.trans (s78.trans s8b)) hB3d, ?_, tk68.trans ((Tk.same s8b).trans tk11), hS11 H2 (s27.trans (s78.trans s8b)) hd2⟩⟩
          obtain ⟨zs, z1, z2⟩ := id hen6
          have z3 : H7 en = some (.lst zs) := hen7.trans z1
          rw [hne11 en hed, (s78.trans s8b) _ _ z3, z1]
        · obtain ⟨⟨y9', ls', rfl, hd7, h3⟩, sB, hen7, tk67, s27⟩ := hP
          rw [hD]
          rw [hcxl] at h3
          refine ⟨⟨_, _, _, _, _, ens', ls', rfl, ?_, hd7, hok.next hnd hS hk hcl20 hens' (fun T => ?_) h3.2⟩, s27⟩
          · obtain ⟨zs, z1, z2⟩ := hen6
            exact ⟨zs, by rw [hen7]; exact z1, z2.tk tk67⟩
          · rw [h3.1 T, List.take_length]
      refine ⟨_, rfl, bb, rfl, ?_⟩
      cases hbb : bb with
      | true =>
        refine ifT rfl ⟨_, rfl, hen5.ty, _, rfl, r_appB hen5 (hS4.same s5) (by rw [List.length_map]; have := hok.elen; omega) fun H6 hS6 hne hL6 tk6 => ?_⟩
        subst hbb
        refine fin _ H6 (ens ++ [S]) rfl hS6 hne tk6 ?_ (by rw [if_pos rfl])
        rw [List.map_append]
        exact hL6
      | false =>
        subst hbb
        refine ifF rfl ?_
        exact fin _ H5 ens rfl (fun _ s _ => s) (fun _ _ => rfl) (Tk.refl _) hen5 (by rw [if_neg (by decide)])
    · obtain ⟨⟨y6, y7, y8, y9, lk, ens, ls, rfl, hen3, hd3, hok⟩, s23⟩ := hP
      dsimp only [tVar, tC, tAdd, tSub, tMul, t2I, tCmp, tIsN, tNotN, tB, tAnd, tOr, tNot, tAndV, tOrV, tNotV, tIf, tSeq, tNext, tDrop, tRet, tRetN, tIfS, tAsg, tAug, tPar, gName, gNil, gCons, gSub, tOp, tUn, tTest, tChain, tCons, tNil, tTup, tLst, tCall, tCB, tMake, tFld, sFld, tNoPart, tPart, tSl, tBM, tBM0, rI0, rI, tYes, Cx.nox, Cx.blk, cxOf, List.nil_append, List.cons_append]
      have s03 : Same H H3 := s12.trans s23
      rw [hxl] at hok
      refine ⟨_, rfl, _, _, rfl, hen3.len, _, _, rfl, rfl, _, rfl, ?_⟩
      rw [List.length_map]
      have hle := hok.elen
      cases hens : ens with
      | nil =>
        refine ifF (by simp) ⟨_, rfl, d, ls, rfl, hd3, by have := hok.llen; omega, fun H4 p4 s4 n4 h4 => ?_⟩
        have hnl : ∀ T ∈ ls, T ≠ [] := fun T hT e => by
          obtain ⟨S, _, x, _, _, h2⟩ := (hok.later T).mp hT
          have := h2.length_eq
          rw [e, List.length_append] at this
          simp at this
        refine ⟨p4, ls.map lot, rfl, .inl h4, srt_lots (by have := hok.llen; omega) hnl, fun H5 p5 s5 n5 h5 => ?_⟩
        obtain ⟨lay', e1, e2⟩ := sort_lots ls
        rw [e1] at h5
        have htake : lay.take lay.length = lay := List.take_length
        have hnn : ls.Nodup := let ⟨_, _, _, z, _⟩ := hd3; z
        refine ⟨⟨p5, _, _, _, _, _, _, _, lay', rfl, h5, ?_, e2.nodup_iff.mpr hnn, ?_⟩, s03.trans (s4.trans s5)⟩
        · refine hLay.next (look := lk) (fun S hS he => ?_) (fun S hS => hok.look S (by rw [htake]; exact hS)) fun T => ?_
          · have := (hok.ense S).mpr ⟨by rw [htake]; exact hS, he⟩
            rw [hens] at this
            cases this
          · rw [e2.mem_iff, hok.later T, htake]
        · have := hok.llen
          rw [e2.length_eq, Nat.pow_succ]
          omega
      | cons S0 zs =>
        refine ifT (by simp) ⟨_, rfl, en, ⟨S0⟩, zs.map PySem.W.Tup.mk, rfl, ?_, fun v hv => q _ v s03 (.inr ⟨(PySem.W.minOf (⟨S0⟩ : PySem.W.Tup (Int × Int)) (zs.map PySem.W.Tup.mk)).items, hv, ?_⟩)⟩
        · rw [hens] at hen3
          have e : (S0 :: zs).map lot = ((⟨S0⟩ : PySem.W.Tup (Int × Int)) :: zs.map PySem.W.Tup.mk).map PySem.W.Datum.toD := by
            rw [List.map_cons, List.map_cons, List.map_map]
            rfl
          rw [← e]
          exact hen3
        · have hmem := minOf_mem (zs.map PySem.W.Tup.mk) (⟨S0⟩ : PySem.W.Tup (Int × Int))
          have hle := minOf_le (fun a b : PySem.W.Tup (Int × Int) => llt a.items b.items) (fun a b => lt_llt a.items b.items) (fun a => llt_irr a.items) (fun h1 h2 => llt_trans h1 h2) (fun a b => by
            rcases llt_tri a.items b.items with z | z | z
            · exact .inl z
            · exact .inr (.inl (by cases a; cases b; cases z; rfl))
            · exact .inr (.inr z)) (zs.map PySem.W.Tup.mk) (⟨S0⟩ : PySem.W.Tup (Int × Int))
          have toens : ∀ y : PySem.W.Tup (Int × Int), y ∈ (⟨S0⟩ : PySem.W.Tup (Int × Int)) :: zs.map PySem.W.Tup.mk ↔ y.items ∈ ens := fun y => by
            rw [hens, List.mem_cons, List.mem_cons, List.mem_map]
            constructor
            · rintro (rfl | ⟨z, hz, rfl⟩)
              · exact .inl rfl
              · exact .inr hz
            · rintro (e | e)
              · exact .inl (by cases y; cases e; rfl)
              · exact .inr ⟨_, e, by cases y; rfl⟩
          have hm2 := (hok.ense _).mp ((toens _).mp hmem)
          rw [List.take_length] at hm2
          refine hLay.done (by omega) hm2.1 hm2.2 fun S' h1 h2 => hle ⟨S'⟩ ((toens _).mpr ((hok.ense S').mpr ⟨by rw [List.take_length]; exact h1, h2⟩))
  · obtain ⟨⟨L, y3, y4, y5, y6, y7, y8, y9, lay, rfl, hlay, hLay, hnd, hsz⟩, s1⟩ := hP
    dsimp only [tVar, tC, tAdd, tSub, tMul, t2I, tCmp, tIsN, tNotN, tB, tAnd, tOr, tNot, tAndV, tOrV, tNotV, tIf, tSeq, tNext, tDrop, tRet, tRetN, tIfS, tAsg, tAug, tPar, gName, gNil, gCons, gSub, tOp, tUn, tTest, tChain, tCons, tNil, tTup, tLst, tCall, tCB, tMake, tFld, sFld, tNoPart, tPart, tSl, tBM, tBM0, rI0, rI, tYes, Cx.nox, Cx.blk, cxOf, List.nil_append, List.cons_append]
    exact q _ _ s1 (.inl ⟨rfl, hLay.none (by omega)⟩)

end
end UG
end
section
/-! Unitgrids: fewest_struck. -/
namespace UG
open PySem PySem.Spec PyProof.Rows L2 RZ UM UL NdefX LamX
/-- least_lot(look, ..), called where look was made -/
def tLeast (K : PySem.W.Frag) (ql : Str) (cl : List (Str × Addr)) (t : TA) : TE := fun σ H Q => ∃ gv, σ[0]? = some (some gv) ∧ t σ H fun vs H1 => ∃ (f c' : Addr) (most b : Nat) (g : Gd), vs = [.ref f, .int (most : Nat)] ∧ H1 f = some (FnO f (mk_look ql cl c')) ∧ H1 c' = some (CodeO c' ql) ∧
  IsG K H1 gv b g ∧ OkG b g ∧ most ≤ 3 ∧ ∀ H' v, Same H1 H' → LeastV K H' (gf g.length b g) most v → Q v H'
section
variable {X : Cx} {ql x : Str} {cl : List (Str × Addr)} {t : TA} {e : Expr} {es : List Expr} {p pos : Pos}
theorem pe_least (T : Txt X.K X.mg) (hr : Room 18 X.A) (hg : Gl X "least_lot") (cp : X.Ok → Caps X cl ["grid"] [0]) (hfn : ∀ y, X.fn y = true) (ha : PA X (e :: es) t)
    (he : starEach (e :: es) X.env = (false, eval e X.env) :: starEach es X.env := by rfl) (hpl : (backTo pos (starEach es X.env)).any (·.1) = false := by rfl) :
    PE X (.Call (.Name "least_lot" p) (e :: es) [] pos) (tLeast X.K ql cl t) := by
  refine ⟨fun pins s σ H Q I h => ?_⟩
  obtain ⟨gv, hgv, ht⟩ := h
  obtain ⟨fa, fd, F, hm⟩ := T.x_least_lot
  have hb := F.bindsA (ps := ["look", "most"]) (fun kV doc pm an cdv ct us hl => match us, hl with | [_, _], _ => rfl)
  obtain ⟨oc, od, dV, kV, doc, pm, an, cdv, ct, osl, rfl, lk, hcd, hD, hK⟩ := F.ex
  refine wpAny_Call_Name_kw (ld_glob I hg hm ?_ (by decide))
  refine PySem.W.callWith_K (h₀ := X.base) I.ok.mod.kin F.kp (thn (ha.run pos pins s σ H _ I ht) fun us s1 ⟨vs, H1, I1, r, q⟩ => ⟨I1.kIn, ?_⟩) he hpl
  obtain ⟨f, c', most, b, g, rfl, h1, h2, hg', ok, hm3, q⟩ := q
  show wpAny _ _ (call (.ref fa) us) _ _ _
  have hc := cells_of I1 (cp I1.ok)
  have hws : [0].map (slotAt σ) = [some gv] := by rw [List.map_cons, List.map_nil, slotAt_of hgv]
  rw [hws] at hc
  have hnf : ∀ y c, cl.lookup y = some c → c ∉ frs X.stack := fun y c hy hm => by
    have hce := (cp I1.ok).sub y c hy
    rcases List.mem_cons.mp (I1.stkSub c hm) with z | z
    · exact I1.cne y c hce z
    · have h3 := I1.ok.cab y c (hfn y) hce
      obtain ⟨_, o, ho, _⟩ := I1.ok.funs.mem z
      exact Nat.lt_irrefl _ (Nat.lt_of_lt_of_le (Heap.lt_size ho) h3)
  refine wpAny_call (codeAny_mono (run_ofS (CX := CX0) (E := E0) (Q := Q) (k := 17) (vs := [.ref f, .int (most : Nat)]) lk hcd sc_least_lot hr I1.env0 (hb s1 us (by rw [← r.length]; rfl)) r rfl fun hr' => ?_) fun r s' hq => ?_)
  · obtain ⟨t', q1, q2⟩ := least_body (E := E0) T hr' (ok_look T f ql cl c') hc hnf h1 h2 hg' ok hm3 q
    exact ⟨t', q1.nox, q2⟩
  · cases r with
    | error e => exact (pass0 (X := X)) pins σ H1 s1 e s' I1 hq
    | ok fl =>
      cases fl with
      | ret u => exact I1.after hq
      | next => exact False.elim hq
      | brk => exact False.elim hq
      | cont => exact False.elim hq
end
end UG
end
section
/-! Unitgrids: fewest_struck. -/
namespace UG
open PySem PySem.Spec PyProof.Rows L2 RZ UM UL NdefX LamX
abbrev n_fewest_struck : List Str := ["grid", "most", "rows", "columns", "look"]
theorem sc_fewest_struck : FnScope n_fewest_struck ["grid", "most"] (defScope s_fewest_struck) := ⟨rfl, rfl, rfl, by decide +kernel, rfl, by decide +kernel, by decide +kernel⟩
/-- the name of the def within -/
abbrev q_look : Str := (envOfC "fewest_struck" (defScope s_fewest_struck) 0 0 .none).qual ++ "look"
theorem hfree_look : ∀ y ∈ (C8.fnScope s_look).names, y.2 = .free → (defScope s_fewest_struck).names.lookup y.1 = some .cell ∨ (defScope s_fewest_struck).names.lookup y.1 = some .free := by decide +kernel
theorem hfr_look : ∀ y ∈ (["grid"] : List Str), (y, NameKind.free) ∈ (C8.fnScope s_look).names := by decide +kernel
/-- the def, its code object known -/
def HasC (K : PySem.W.Frag) (mg : Str → Option Value) (c : Addr) : Prop := ∃ f fd, FunD K "fewest_struck" "fewest_struck" (defArgs s_fewest_struck) (defBody s_fewest_struck) (defScope s_fewest_struck) [] [] f fd ∧ mg "fewest_struck" = some (.ref f) ∧ fd.code = .ref c
theorem extN_tk {H H1 : Hp} (e : ExtN H H1) : Tk H H1 := fun a xs r => by
  rcases r with h | ⟨o, h⟩
  · exact .inl (e _ _ h fun _ z => by cases z)
  · exact .inr ⟨o, e _ _ h fun _ z => by cases z⟩
theorem IsG.ext {K : PySem.W.Frag} {H H1 : Hp} {v : V} {b : Nat} {g : Gd} (e : ExtN H H1) (h : IsG K H v b g) : IsG K H1 v b g := let ⟨p, dx, r, e1, h1, h2⟩ := h; ⟨p, dx, r, e1, e _ _ h1 (fun _ z => nomatch z), h2.tk (extN_tk e)⟩
theorem extN_same {H H1 : Hp} (s : Same H H1) : ExtN H H1 := fun b o h _ => s b o h
theorem extN_trans {H H1 H2 : Hp} (a : ExtN H H1) (b : ExtN H1 H2) : ExtN H H2 := fun x o h n => b x o (a x o h n) n
section
variable {P : Program} {w : World} {K : PySem.W.Frag} {mg : Str → Option Value} {base : Heap}
theorem HasC.ok {c : Addr} {k : Nat} {sp : Sp} (h : HasC K mg c) (len : ∀ vs H Q E, sp vs H Q E → vs.length = 2)
    (hbody : ∀ (f : Addr) (A : Around) (outer : List Env) (s : Shared) (H : Hp) (vs : List V) (Q : VK) (E : XK), Room k (A.deeper (envOfC "fewest_struck" (defScope s_fewest_struck) s.heap.objs.size f (.ref c))) → sp vs H Q E →
      ∃ t, PSs (cxOf CX0 P w K mg base n_fewest_struck "fewest_struck" (defScope s_fewest_struck) f (.ref c) A outer s H E).nox (defBody s_fewest_struck) t ∧ t { nx := fun _ H' => Q .non H', rt := Q } (start n_fewest_struck vs) H) : Ok P w K mg base "fewest_struck" ["grid", "most"] (k + 1) sp := by
  obtain ⟨f, fd, F, g, hcode⟩ := h
  have hb := F.bindsN (ps := ["grid", "most"]) (fun kV doc pm an cdv ct us hl => match us, hl with | [_, _], _ => rfl)
  obtain ⟨oc, od, dV, kV, doc, pm, an, cdv, ct, osl, rfl, lk, hcd, hD, hK⟩ := id F.ex
  have e : cdv = .ref c := hcode
  subst e
  exact ⟨f, _, fn_of lk hcd sc_fewest_struck len fun A outer s H vs Q E hr h => (let ⟨t, h1, h2⟩ := hbody f A outer s H vs Q E hr h; ⟨t, h1.nox, h2⟩), g, F.kp, hb⟩
def sp_fewest_struck (K : PySem.W.Frag) (tb : Addr) : Sp := fun vs H Q _ => ∃ x y, vs = [x, y] ∧ ∃ (b : Nat) (g : Gd) (most : Nat), IsG K H x b g ∧ OkG b g ∧ y = .int (most : Nat) ∧ most ≤ 3 ∧ TabsN [(tb, fun _ _ => q_look)] H ∧
  ∀ H' v, ExtN H H' → TabsN [(tb, fun _ _ => q_look)] H' → LeastV K H' (gf g.length b g) most v → Q v H'
theorem ok_fewest_struck (T : Txt K mg) {c tb : Addr} (hC : HasC K mg c) (TB : TabB base mg c tb) : Ok P w K mg base "fewest_struck" ["grid", "most"] 19 (sp_fewest_struck K tb) := by
  refine hC.ok (fun vs H Q E h => by obtain ⟨_, _, rfl, _⟩ := h; rfl) (fun f A outer s H vs Q E hr h => ?_)
  obtain ⟨x, _, rfl, b, g, most, hg, ok, rfl, hm, hT, q⟩ := h
  have caps_look : (cxOf CX0 P w K mg base n_fewest_struck "fewest_struck" (defScope s_fewest_struck) f (.ref c) A outer s H E).nox.Ok → Caps (cxOf CX0 P w K mg base n_fewest_struck "fewest_struck" (defScope s_fewest_struck) f (.ref c) A outer s H E).nox (cloFrom (cxOf CX0 P w K mg base n_fewest_struck "fewest_struck" (defScope s_fewest_struck) f (.ref c) A outer s H E).nox.env.cells (C8.fnScope s_look).names []) ["grid"] [0] :=
    fun o => Caps.made o hfree_look hfr_look rfl
  refine ⟨_, (pss_cons (ps_asg (pc (ok_sizes_of T) hr rfl (pa_cons (pv 0) pa_nil)) (by refine pg2 (i := 2) (j := 3) K rfl sc_fewest_struck.nd ?_ ?_ ?_ ?_ ?_ ?_ ?_ <;> first | rfl | exact .inl rfl | exact .inr rfl))
    (pss_cons (ps_if (pt_cmpR op_ne (pv 2) (pv 3) (nomark _))
      (pss_one ps_never)
      pss_nil)
    (pss_cons (ps_expr (pc (ok_check_number T) hr rfl (pa_cons (pv 1) (pa_cons pe_int (pa_cons (pe_gi T.e_MOST_CELLS rfl) pa_nil)))))
    (pss_cons (ps_ndefMS (st := s_look) (nm := fun _ _ => q_look) (i := 4) (T := [(tb, fun _ _ => q_look)]) rfl TB rfl (List.mem_singleton.mpr rfl) rfl (fun p hp _ => by rw [List.mem_singleton.mp hp]) hfree_look rfl rfl rfl sc_fewest_struck.nd rfl (.inl rfl) (.inl rfl))
    (pss_one (ps_ret (pe_least (ql := q_look) T hr rfl caps_look (fun _ => rfl) (pa_cons (pv 4) (pa_cons (pv 1) pa_nil))))))))), ?_⟩
  dsimp only [tVar, tC, tAdd, tSub, tMul, t2I, tCmp, tIsN, tNotN, tB, tAnd, tOr, tNot, tAndV, tOrV, tNotV, tIf, tSeq, tNext, tDrop, tRet, tRetN, tIfS, tAsg, tAug, tPar, gName, gNil, gCons, gSub, tOp, tUn, tTest, tChain, tCons, tNil, tTup, tLst, tCall, tCB, tMake, tFld, sFld, tNoPart, tPart, tSl, tBM, tBM0, rI0, rI, tYes, Cx.nox, Cx.blk, cxOf, List.nil_append, List.cons_append]
  refine ⟨_, rfl, x, rfl, b, g, hg, ok, fun H1 v1 s1 h1 => ?_⟩
  refine gIs2 h1 fun v w i1 i2 => ?_
  rw [i1.int_eq, i2.int_eq]
  dsimp only [tVar, tC, tAdd, tSub, tMul, t2I, tCmp, tIsN, tNotN, tB, tAnd, tOr, tNot, tAndV, tOrV, tNotV, tIf, tSeq, tNext, tDrop, tRet, tRetN, tIfS, tAsg, tAug, tPar, gName, gNil, gCons, gSub, tOp, tUn, tTest, tChain, tCons, tNil, tTup, tLst, tCall, tCB, tMake, tFld, sFld, tNoPart, tPart, tSl, tBM, tBM0, rI0, rI, tYes, Cx.nox, Cx.blk, cxOf, List.nil_append, List.cons_append, tNever]
  refine ⟨_, rfl, _, rfl, rfl, _, rfl, ifF (by simp) ?_⟩
  refine ⟨_, rfl, _, _, _, rfl, _, _, _, rfl, rfl, rfl, by omega, by omega, ?_⟩
  refine ⟨hT.ext s1, fun fl c' H2 eN _ hT2 hfn hfl hcl => ?_⟩
  refine ⟨x, rfl, _, rfl, _, rfl, fl, c', most, b, g, rfl, hfl, hcl, (hg.same s1).ext eN, ok, hm, fun H3 v3 s3 h3 => ?_⟩
  exact q H3 v3 (extN_trans (extN_trans (extN_same s1) eN) (extN_same s3)) (hT2.ext s3) h3
end
end UG
end
section
/-! Unitgrids, the law's own numbers: lowest terms, sums of units. -/
namespace UG
open PySem PySem.Spec PyProof.Rows L2 RZ
section
variable {P : Program} {w : World} {K : PySem.W.Frag} {mg : Str → Option Value} {base : Heap}
def sp_L_lowest (K : PySem.W.Frag) : Sp := sp_lowest K
abbrev n_L_lowest : List Str := ["_law_top", "_law_below", "_law_one", "_law_other"]
theorem sc_L_lowest : FnScope n_L_lowest ["_law_top", "_law_below"] (defScope s_L_lowest) := ⟨rfl, rfl, rfl, by decide +kernel, rfl, by decide +kernel, by decide +kernel⟩
theorem ok_L_lowest (T : Txt K mg) : Ok P w K mg base "_law_lowest" ["_law_top", "_law_below"] 2 (sp_L_lowest K) := by
  refine T.x_L_lowest.ok sc_L_lowest (fun _ _ _ _ _ _ us hl => match us, hl with | [_, _], _ => rfl) (fun vs H Q E h => by obtain ⟨_, _, rfl, _⟩ := h; rfl) (fun f cdv A outer s H vs Q E hr h => ?_)
  obtain ⟨_, _, rfl, t, b, n, rfl, rfl, h0, h1, h2, q⟩ := h
  refine ⟨_, (pss_cons (ps_par (i := 2) (j := 3) rfl sc_L_lowest.nd rfl rfl (by decide) rfl rfl (pa_cons (pe_callB call_abs (by rfl) T.b_abs bt_abs (pa_cons (pv 0) pa_nil)) (pa_cons (pv 1) pa_nil)) (by rfl))
    (pss_cons (ps_while PassesOwn.never (pt_cmpR op_gt (pv 3) pe_int (nomark _))
      (pss_one (ps_par (i := 2) (j := 3) rfl sc_L_lowest.nd rfl rfl (by decide) rfl rfl (pa_cons (pv 3) (pa_cons (pe_op op_mod (pe_callTy call_int1 (by rfl) T.b_int bt_int (pa_cons (pv 2) pa_nil)) (pv 3)) pa_nil)) (by rfl))))
    (pss_one (ps_ret (pe_tup (pa_cons (pe_op op_fdiv (pv 0) (pv 2)) (pa_cons (pe_op op_fdiv (pv 1) (pv 2)) pa_nil))))))), ?_⟩
  dsimp only [tVar, tC, tAdd, tSub, tMul, t2I, tCmp, tIsN, tNotN, tB, tAnd, tOr, tNot, tAndV, tOrV, tNotV, tIf, tSeq, tNext, tDrop, tRet, tRetN, tIfS, tAsg, tAug, tPar, gName, gNil, gCons, gSub, tOp, tUn, tTest, tChain, tCons, tNil, tTup, tLst, tCall, tCB, tMake, tFld, sFld, tNoPart, tPart, tSl, tBM, tBM0, rI0, rI, tYes, Cx.nox, Cx.blk, cxOf, List.nil_append, List.cons_append]
  refine ⟨_, rfl, t, rfl, _, rfl, _, _, rfl, ?_⟩
  refine ⟨fun m σ H' => H = H' ∧ ∃ p : Nat, σ = [some (.int t), some (.int b), some (.int (p : Nat)), some (.int (m : Nat))] ∧ Nat.gcd p m = Int.gcd t b, ⟨b.natAbs, rfl, t.natAbs, ?_, rfl⟩, fun m σ H' hW => ?_⟩
  · rw [abs_nat, show ((b.natAbs : Nat) : Int) = b by omega]
    rfl
  obtain ⟨rfl, p, rfl, hg⟩ := hW
  refine ⟨_, rfl, _, _, rfl, rfl, _, rfl, ?_⟩
  by_cases hm : (0 : Int) < (m : Nat)
  · refine ifT (decide_eq_true hm) ⟨fun σ H' => H = H' ∧ ∃ p' : Nat, ∃ m' : Nat, m' < m ∧ σ = [some (.int t), some (.int b), some (.int (p' : Nat)), some (.int (m' : Nat))] ∧ Nat.gcd p' m' = Int.gcd t b, fun σ' H'' hN => ?_, ?_⟩
    · obtain ⟨rfl, p', m', h1, rfl, h2⟩ := hN
      exact ⟨m', h1, rfl, p', rfl, h2⟩
    · refine ⟨_, rfl, _, rfl, .inl ⟨_, rfl, _, rfl, _, _, rfl, rfl, hm, _, _, rfl, rfl, m, p % m, Nat.mod_lt _ (by omega), ?_, ?_⟩⟩
      · rw [Int.natCast_emod]
        rfl
      · rw [← hg, Nat.gcd_comm p m, Nat.gcd_rec m p, Nat.gcd_comm]
  · have e : m = 0 := by omega
    subst e
    refine ifF (by decide) ?_
    rw [Nat.gcd_zero_right] at hg
    rw [hg]
    refine ⟨_, rfl, _, rfl, _, _, rfl, rfl, gcd_lt h0 h1, _, rfl, _, rfl, _, _, rfl, rfl, gcd_lt h0 h1, two_le, fun p np => ?_⟩
    refine q _ _ (same_upd np) ?_
    show Is K (upd H p (.tup [.int (t / (Int.gcd t b : Nat)), .int (b / (Int.gcd t b : Nat))])) _ _
    rw [(low_frp h0 h2).1, (low_frp h0 h2).2, fr_eq]
    exact is_pair np
def sp_L_plus (K : PySem.W.Frag) : Sp := sp_plus K
abbrev n_L_plus : List Str := ["_law_one", "_law_other"]
theorem sc_L_plus : FnScope n_L_plus ["_law_one", "_law_other"] (defScope s_L_plus) := ⟨rfl, rfl, rfl, by decide +kernel, rfl, by decide +kernel, by decide +kernel⟩
theorem ok_L_plus (T : Txt K mg) : Ok P w K mg base "_law_plus" ["_law_one", "_law_other"] 3 (sp_L_plus K) := by
  refine T.x_L_plus.ok sc_L_plus (fun _ _ _ _ _ _ us hl => match us, hl with | [_, _], _ => rfl) (fun vs H Q E h => by obtain ⟨_, _, rfl, _⟩ := h; rfl) (fun f cdv A outer s H vs Q E hr h => ?_)
  obtain ⟨_, _, rfl, m, n, hx, hy, q⟩ := h
  refine ⟨_, (pss_one (ps_ret (pc (ok_L_lowest T) hr rfl (pa_cons (pe_op op_add (pe_op op_mul (pe_ix ix_tup (pv 0) pe_int (fun _ _ => rfl)) (pe_ix ix_tup (pv 1) pe_int (fun _ _ => rfl))) (pe_op op_mul (pe_ix ix_tup (pv 1) pe_int (fun _ _ => rfl)) (pe_ix ix_tup (pv 0) pe_int (fun _ _ => rfl)))) (pa_cons (pe_op op_mul (pe_ix ix_tup (pv 0) pe_int (fun _ _ => rfl)) (pe_ix ix_tup (pv 1) pe_int (fun _ _ => rfl))) pa_nil))))), ?_⟩
  dsimp only [tVar, tC, tAdd, tSub, tMul, t2I, tCmp, tIsN, tNotN, tB, tAnd, tOr, tNot, tAndV, tOrV, tNotV, tIf, tSeq, tNext, tDrop, tRet, tRetN, tIfS, tAsg, tAug, tPar, gName, gNil, gCons, gSub, tOp, tUn, tTest, tChain, tCons, tNil, tTup, tLst, tCall, tCB, tMake, tFld, sFld, tNoPart, tPart, tSl, tBM, tBM0, rI0, rI, tYes, Cx.nox, Cx.blk, cxOf, List.nil_append, List.cons_append]
  refine ⟨_, rfl, hx.fr0 ⟨_, rfl, hy.fr1 ⟨_, _, rfl, rfl, small_mul n, ?_⟩⟩⟩
  refine ⟨_, rfl, hy.fr0 ⟨_, rfl, hx.fr1 ⟨_, _, rfl, rfl, small_mul m, _, _, rfl, rfl, ?_⟩⟩⟩
  refine ⟨_, rfl, hx.fr1 ⟨_, rfl, hy.fr1 ⟨_, _, rfl, rfl, small_mul n, ?_⟩⟩⟩
  exact ⟨_, _, rfl, _, _, m + n, rfl, rfl, (below_mul m n).1, (below_mul m n).2, plus_law m n, q⟩
def sp_L_unitless (K : PySem.W.Frag) : Sp := sp_unitless K
abbrev n_L_unitless : List Str := ["_law_bases"]
theorem sc_L_unitless : FnScope n_L_unitless ["_law_bases"] (defScope s_L_unitless) := ⟨rfl, rfl, rfl, by decide +kernel, rfl, by decide +kernel, by decide +kernel⟩
theorem ok_L_unitless (T : Txt K mg) : Ok P w K mg base "_law_unitless" ["_law_bases"] 1 (sp_L_unitless K) := by
  refine T.x_L_unitless.ok sc_L_unitless (fun _ _ _ _ _ _ us hl => match us, hl with | [_], _ => rfl) (fun vs H Q E h => by obtain ⟨_, rfl, _⟩ := h; rfl) (fun f cdv A outer s H vs Q E hr h => ?_)
  obtain ⟨x, rfl, b, rfl, h1, h2, q⟩ := h
  refine ⟨_, (pss_one (ps_ret (pe_op op_repA (pe_tup (pa_cons (pe_tup (pa_cons pe_int (pa_cons pe_int pa_nil))) pa_nil)) (pv 0)))), ?_⟩
  dsimp only [tVar, tC, tAdd, tSub, tMul, t2I, tCmp, tIsN, tNotN, tB, tAnd, tOr, tNot, tAndV, tOrV, tNotV, tIf, tSeq, tNext, tDrop, tRet, tRetN, tIfS, tAsg, tAug, tPar, gName, gNil, gCons, gSub, tOp, tUn, tTest, tChain, tCons, tNil, tTup, tLst, tCall, tCB, tMake, tFld, sFld, tNoPart, tPart, tSl, tBM, tBM0, rI0, rI, tYes, Cx.nox, Cx.blk, cxOf, List.nil_append, List.cons_append]
  exact ⟨two_le, fun p np => ⟨one_le, fun t nt => ⟨_, rfl, r_unitless h1 h2 np nt q⟩⟩⟩
def sp_L_unit_sum (K : PySem.W.Frag) : Sp := fun vs H Q _ => ∃ x y z, vs = [x, y, z] ∧ ∃ u v : Ut, Is K H x (un u) ∧ Is K H y (un v) ∧ z = .int 1 ∧ u.length < 100 ∧ ∀ H' z, Same H H' → Is K H' z (un (ua u v)) → Q z H'
abbrev n_L_unit_sum : List Str := ["_law_one", "_law_other", "_law_sign", "_law_first", "_law_second"]
theorem sc_L_unit_sum : FnScope n_L_unit_sum ["_law_one", "_law_other", "_law_sign"] (defScope s_L_unit_sum) := ⟨rfl, rfl, rfl, by decide +kernel, rfl, by decide +kernel, by decide +kernel⟩
theorem ok_L_unit_sum (T : Txt K mg) : Ok P w K mg base "_law_unit_sum" ["_law_one", "_law_other", "_law_sign"] 4 (sp_L_unit_sum K) := by
  refine T.x_L_unit_sum.ok sc_L_unit_sum (fun _ _ _ _ _ _ us hl => match us, hl with | [_, _, _], _ => rfl) (fun vs H Q E h => by obtain ⟨_, _, _, rfl, _⟩ := h; rfl) (fun f cdv A outer s H vs Q E hr h => ?_)
  obtain ⟨x, y, _, rfl, u, v, hx, hy, rfl, hz, q⟩ := h
  obtain ⟨a, xs, rfl, ht, ha⟩ := hx.tup_ex
  obtain ⟨b, ys, rfl, ht2, hb⟩ := hy.tup_ex
  refine ⟨_, (pss_one (ps_ret (pe_callTy call_tuple_of (by rfl) T.b_tuple bt_tuple (pa_cons (pe_lc (own := [("_law_first", 3), ("_law_second", 4)]) rfl sc_L_unit_sum.nd (pi_zipA rfl T.b_zip (pa_cons (pv 0) (pa_cons (pv 1) pa_nil))) (blkOk_by (N := n_L_unit_sum) (sc := (defScope s_L_unit_sum)) (by decide +kernel)) (fun _ _ _ _ _ => (by refine pg2 (i := 3) (j := 4) K rfl sc_L_unit_sum.nd ?_ ?_ ?_ ?_ ?_ ?_ ?_ <;> first | rfl | exact .inl rfl | exact .inr rfl)) (fun _ _ _ _ _ => pts_nil) (fun _ _ _ _ _ => (pc (ok_L_plus T) hr rfl (pa_cons (pv 3) (pa_cons (pe_tup (pa_cons (pe_op op_mul (pv 2) (pe_ix (ix_tupK K (by rfl)) (pv 4) pe_int (fun _ _ => rfl))) (pa_cons (pe_ix (ix_tupK K (by rfl)) (pv 4) pe_int (fun _ _ => rfl)) pa_nil))) pa_nil))))) pa_nil)))), ?_⟩
  dsimp only [tVar, tC, tAdd, tSub, tMul, t2I, tCmp, tIsN, tNotN, tB, tAnd, tOr, tNot, tAndV, tOrV, tNotV, tIf, tSeq, tNext, tDrop, tRet, tRetN, tIfS, tAsg, tAug, tPar, gName, gNil, gCons, gSub, tOp, tUn, tTest, tChain, tCons, tNil, tTup, tLst, tCall, tCB, tMake, tFld, sFld, tNoPart, tPart, tSl, tBM, tBM0, rI0, rI, tYes, Cx.nox, Cx.blk, cxOf, List.nil_append, List.cons_append]
  have ex : xs.length = u.length := by rw [ha.length, List.length_map]
  have ey : ys.length = v.length := by rw [hb.length, List.length_map]
  refine lcM (K := K) (f := fun i => fr (u.getD i 0 + v.getD i 0)) (feedZT ht ht2) (fun R r => ?_) (fun L i x acc H2 H' hL hi hp hl hle s it => ?_) (fun L H2 hL s hi => ?_)
  · exact ⟨_, rfl, _, rfl, a, b, xs, ys, rfl, .inr ⟨ht, ht2, r⟩⟩
  · obtain ⟨T, p, r, rfl, e1, e2, e3⟩ := it
    obtain ⟨m, hm, im⟩ := ha.getM' e1
    obtain ⟨n, hn, iN⟩ := hb.getM' e2
    refine gPair e3 ?_
    dsimp only [tVar, tC, tAdd, tSub, tMul, t2I, tCmp, tIsN, tNotN, tB, tAnd, tOr, tNot, tAndV, tOrV, tNotV, tIf, tSeq, tNext, tDrop, tRet, tRetN, tIfS, tAsg, tAug, tPar, gName, gNil, gCons, gSub, tOp, tUn, tTest, tChain, tCons, tNil, tTup, tLst, tCall, tCB, tMake, tFld, sFld, tNoPart, tPart, tSl, tBM, tBM0, rI0, rI, tYes, Cx.nox, Cx.blk, cxOf, List.nil_append, List.cons_append]
    have iN2 := (iN.same hp.1).same s
    refine ⟨rfl, ifT rfl ⟨_, rfl, _, rfl, _, rfl, iN2.fr0 ⟨_, _, rfl, rfl, .inl (by decide), _, rfl, iN2.fr1 ⟨two_le, fun p1 np1 => ?_⟩⟩⟩⟩
    refine ⟨_, _, rfl, m, n, ((im.same hp.1).same s).same (same_upd np1), ?_, fun H4 z s4 hz4 => ?_⟩
    · rw [Int.one_mul, fr_eq]
      exact is_pair np1
    · refine hp.got hL hl (s.trans ((same_upd np1).trans s4)) hle (Nat.lt_trans hi (by rw [ex]; exact Nat.lt_of_le_of_lt (Nat.min_le_left _ _) (Nat.lt_trans hz (by decide)))) ?_
      rw [getD_of hm, getD_of hn]
      exact hz4
  · refine r_tuple hi fun H' z s' hz' => q H' z (s.trans s') ?_
    rw [ex, ey, range_zip fun a b => a + b] at hz'
    exact hz'
theorem ua_len2 (u v : Ut) : (ua u v).length = min u.length v.length := by unfold ua; rw [List.length_zipWith]
def sp_L_total (K : PySem.W.Frag) : Sp := fun vs H Q _ => ∃ x y, vs = [x, y] ∧ ∃ (b : Nat) (l : Addr) (us : List Ut), x = .int (b : Nat) ∧ 1 ≤ b ∧ b ≤ 2 ∧ y = .ref l ∧ IsL K H l (us.map un) ∧ (∀ u ∈ us, u.length = b) ∧ ∀ H' z, Same H H' → Is K H' z (un (us.foldl ua (u0 b))) → Q z H'
abbrev n_L_total : List Str := ["_law_bases", "_law_units_here", "_law_found", "_law_unit_here"]
theorem sc_L_total : FnScope n_L_total ["_law_bases", "_law_units_here"] (defScope s_L_total) := ⟨rfl, rfl, rfl, by decide +kernel, rfl, by decide +kernel, by decide +kernel⟩
theorem ok_L_total (T : Txt K mg) : Ok P w K mg base "_law_total" ["_law_bases", "_law_units_here"] 5 (sp_L_total K) := by
  refine T.x_L_total.ok sc_L_total (fun _ _ _ _ _ _ us hl => match us, hl with | [_, _], _ => rfl) (fun vs H Q E h => by obtain ⟨_, _, rfl, _⟩ := h; rfl) (fun f cdv A outer s H vs Q E hr h => ?_)
  obtain ⟨_, _, rfl, b, l, us, rfl, h1, h2, rfl, hl, hu, q⟩ := h
  refine ⟨_, (pss_cons (ps_set (i := 2) sc_L_total.nd rfl (.inl rfl) (pc (ok_L_unitless T) hr rfl (pa_cons (pv 0) pa_nil)))
    (pss_cons (ps_for PassesOwn.never rfl (pi_list (pv 1)) (pg_name (i := 3) sc_L_total.nd rfl (.inl rfl))
      (pss_one (ps_set (i := 2) sc_L_total.nd rfl (.inl rfl) (pc (ok_L_unit_sum T) hr rfl (pa_cons (pv 2) (pa_cons (pv 3) (pa_cons pe_int pa_nil)))))))
    (pss_one (ps_ret (pv 2))))), ?_⟩
  dsimp only [tVar, tC, tAdd, tSub, tMul, t2I, tCmp, tIsN, tNotN, tB, tAnd, tOr, tNot, tAndV, tOrV, tNotV, tIf, tSeq, tNext, tDrop, tRet, tRetN, tIfS, tAsg, tAug, tPar, gName, gNil, gCons, gSub, tOp, tUn, tTest, tChain, tCons, tNil, tTup, tLst, tCall, tCB, tMake, tFld, sFld, tNoPart, tPart, tSl, tBM, tBM0, rI0, rI, tYes, Cx.nox, Cx.blk, cxOf, List.nil_append, List.cons_append]
  refine ⟨_, rfl, _, rfl, b, rfl, h1, by omega, fun H1 v1 s1 hv1 => ?_⟩
  obtain ⟨xs, hx, ha⟩ := hl
  have hxl : xs.length = us.length := by rw [ha.length, List.length_map]
  refine forF (B := H) (feedL (SqL.of hx)) (fun R r => ⟨_, rfl, l, rfl, ⟨xs, SqL.of (s1 _ _ hx)⟩, r⟩)
    (fun i σ H' => (∃ v y3, σ = [some (.int (b : Nat)), some (.ref l), some v, y3] ∧ Is K H' v (un ((us.take i).foldl ua (u0 b))) ∧ ((us.take i).foldl ua (u0 b)).length = b) ∧ Same H H')
    ⟨⟨v1, _, rfl, hv1, by simp [u0]⟩, s1⟩ (fun _ _ _ h => h.2) (fun i x σ H2 H3 hi hP s it => ?_) (fun σ H2 hP => ?_)
  · obtain ⟨⟨v, y3, rfl, hv, hlen⟩, s2⟩ := hP
    obtain ⟨u, hu1, hu2⟩ := ha.getM' it
    dsimp only [tVar, tC, tAdd, tSub, tMul, t2I, tCmp, tIsN, tNotN, tB, tAnd, tOr, tNot, tAndV, tOrV, tNotV, tIf, tSeq, tNext, tDrop, tRet, tRetN, tIfS, tAsg, tAug, tPar, gName, gNil, gCons, gSub, tOp, tUn, tTest, tChain, tCons, tNil, tTup, tLst, tCall, tCB, tMake, tFld, sFld, tNoPart, tPart, tSl, tBM, tBM0, rI0, rI, tYes, Cx.nox, Cx.blk, cxOf, List.nil_append, List.cons_append]
    refine ⟨_, rfl, _, rfl, _, _, _, rfl, _, u, hv.same s, hu2.same (s2.trans s), rfl, by rw [hlen]; omega, fun H4 z s4 hz => ⟨⟨z, _, rfl, ?_, ?_⟩, s2.trans (s.trans s4)⟩⟩
    · rw [List.take_succ, hu1, List.foldl_append]
      exact hz
    · rw [List.take_succ, hu1, List.foldl_append]
      show (ua _ u).length = b
      rw [ua_len2, hlen, hu u (List.mem_of_getElem? hu1)]
      exact Nat.min_self _
  · obtain ⟨⟨v, y3, rfl, hv, hlen⟩, s2⟩ := hP
    rw [hxl, List.take_length] at hv
    dsimp only [tVar, tC, tAdd, tSub, tMul, t2I, tCmp, tIsN, tNotN, tB, tAnd, tOr, tNot, tAndV, tOrV, tNotV, tIf, tSeq, tNext, tDrop, tRet, tRetN, tIfS, tAsg, tAug, tPar, gName, gNil, gCons, gSub, tOp, tUn, tTest, tChain, tCons, tNil, tTup, tLst, tCall, tCB, tMake, tFld, sFld, tNoPart, tPart, tSl, tBM, tBM0, rI0, rI, tYes, Cx.nox, Cx.blk, cxOf, List.nil_append, List.cons_append]
    exact ⟨_, rfl, q _ _ s2 hv⟩
end
end UG
end
section
/-! Unitgrids, the law's hand and its draws (their ranges alone). -/
namespace UG
open PySem PySem.Spec PyProof.Rows L2 RZ
theorem seq_by {A B : TS} {D : Ends} {σ : L2.St} {H : Hp} (Pre : L2.St → Hp → Prop) (h1 : ∀ N : L2.St → Hp → Prop, (∀ σ' H', Pre σ' H' → N σ' H') → A { D with nx := N } σ H) (h2 : ∀ σ' H', Pre σ' H' → B D σ' H') : tSeq A B D σ H := h1 (B D) h2
/-- the hand's own list: where its numbers stand, the place, what is left, the number, the count (not more than n) -/
def HC (H : Hp) (h l : Addr) (n : Nat) : Prop := ∃ a b c d : Nat, H h = some (.lst [.ref l, .int (a : Nat), .int (b : Nat), .int (c : Nat), .int (d : Nat)]) ∧ c < 2 ^ 31 ∧ d ≤ n
/-- the hand -/
def Hand (H : Hp) (h l : Addr) (ns : List Int) (n : Nat) : Prop := HC H h l n ∧ H l = some (.lst (ns.map V.int)) ∧ l ≠ h ∧ ∀ z ∈ ns, 0 ≤ z
/-- H' is H but for the hand -/
def But (h : Addr) (H H' : Hp) : Prop := (∀ B, Same B H → B h = none → Same B H') ∧ Tk H H' ∧ ∀ b, b ≠ h → H' b = H b
theorem But.refl (h : Addr) (H : Hp) : But h H H := ⟨fun _ s _ => s, Tk.refl _, fun _ _ => rfl⟩
theorem But.trans {h : Addr} {H H1 H2 : Hp} (a : But h H H1) (b : But h H1 H2) : But h H H2 := ⟨fun B s n => b.1 B (a.1 B s n) n, a.2.1.trans b.2.1, fun c hc => (b.2.2 c hc).trans (a.2.2 c hc)⟩
theorem But.put {h : Addr} {H : Hp} {xs ys : List V} (e : H h = some (.lst xs)) : But h H (upd H h (.lst ys)) := ⟨fun _ s n => s.out n, Tk.lst e, fun _ hb => upd_ne hb⟩
theorem tkl {H H1 : Hp} {h l : Addr} {o : HO} (s : H l = some o) (b : But h H H1) (ne : l ≠ h) : H1 l = some o := (b.2.2 l ne).trans s
section
variable {P : Program} {w : World} {K : PySem.W.Frag} {mg : Str → Option Value} {base : Heap}
section
variable {H : Hp} {h : Addr} {x0 x1 x2 x3 x4 : V} {Q : VK}
theorem hx (e : H h = some (.lst [x0, x1, x2, x3, x4])) {k : Nat} {v : V} (hk : [x0, x1, x2, x3, x4][k]? = some v) (q : Q v H) : rIxL K (.ref h) (.int ((k : Nat) : Int)) H Q := by
  have hlt : k < 5 := (List.getElem?_eq_some_iff.mp hk).1
  match k, hlt, hk with
  | 0, _, hk => cases hk; exact ⟨h, _, _, _, rfl, rfl, SqL.of e, rfl, q⟩
  | 1, _, hk => cases hk; exact ⟨h, _, _, _, rfl, rfl, SqL.of e, rfl, q⟩
  | 2, _, hk => cases hk; exact ⟨h, _, _, _, rfl, rfl, SqL.of e, rfl, q⟩
  | 3, _, hk => cases hk; exact ⟨h, _, _, _, rfl, rfl, SqL.of e, rfl, q⟩
  | 4, _, hk => cases hk; exact ⟨h, _, _, _, rfl, rfl, SqL.of e, rfl, q⟩
end
def sp_L_draw (K : PySem.W.Frag) : Sp := fun vs H Q _ => ∃ x y, vs = [x, y] ∧ ∃ (h l : Addr) (ns : List Int) (n m : Nat), x = .ref h ∧ Hand H h l ns n ∧ n < 1000000 ∧ y = .int (m : Nat) ∧ 1 ≤ m ∧ m < 1000 ∧
  ∀ H' r, But h H H' → Hand H' h l ns (n + 1) → r < m → Q (.int ((r : Nat) : Int)) H'
abbrev n_L_draw : List Str := ["_law_hand_here", "_law_many", "_law_cell", "_law_digit", "_law_number"]
theorem sc_L_draw : FnScope n_L_draw ["_law_hand_here", "_law_many"] (defScope s_L_draw) := ⟨rfl, rfl, rfl, by decide +kernel, rfl, by decide +kernel, by decide +kernel⟩
theorem ok_L_draw (T : Txt K mg) : Ok P w K mg base "_law_draw" ["_law_hand_here", "_law_many"] 1 (sp_L_draw K) := by
  refine T.x_L_draw.ok sc_L_draw (fun _ _ _ _ _ _ us hl => match us, hl with | [_, _], _ => rfl) (fun vs H Q E h => by obtain ⟨_, _, rfl, _⟩ := h; rfl) (fun f cdv A outer s H vs Q E hr h => ?_)
  obtain ⟨_, _, rfl, h, l, ns, n, m, rfl, hh, hn, rfl, hm1, hm2, q⟩ := h
  refine ⟨_, (pss_cons (ps_if (PW.pt (pw_and (pt_cmpR op_eq (pe_ix ix_list (pv 0) pe_int (fun _ _ => rfl)) pe_int (nomark _)) (pw_and1 (pt_cmpR op_lt (pe_ix ix_list (pv 0) pe_int (fun _ _ => rfl)) (pe_callB call_lenO (by rfl) T.b_len bt_len (pa_cons (pe_ix ix_list (pv 0) pe_int (fun _ _ => rfl)) pa_nil)) (nomark _)))))
      (pss_cons (ps_set (i := 2) sc_L_draw.nd rfl (.inl rfl) (pe_ix ix_list (pe_ix ix_list (pv 0) pe_int (fun _ _ => rfl)) (pe_ix ix_list (pv 0) pe_int (fun _ _ => rfl)) (fun _ _ => rfl)))
      (pss_cons (ps_asg (pe_op op_add (pe_ix ix_list (pv 0) pe_int (fun _ _ => rfl)) pe_int) (pg_sub (pv 0) pe_int set_list))
      (pss_cons (ps_asg (pe_op op_mod (pe_callTy call_int1 (by rfl) T.b_int bt_int (pa_cons (pe_op op_add (pe_op op_add (pe_op op_mul (pe_ix ix_list (pv 0) pe_int (fun _ _ => rfl)) pe_int) (pv 2)) pe_int) pa_nil)) pe_int) (pg_sub (pv 0) pe_int set_list))
      (pss_one (ps_if (pt_cmpR op_ge (pv 2) (pe_op op_pow pe_int pe_int) (nomark _))
        (pss_one (ps_asg (pv 2) (pg_sub (pv 0) pe_int set_list)))
        pss_nil)))))
      pss_nil)
    (pss_cons (ps_if (pt_cmpR op_gt (pe_ix ix_list (pv 0) pe_int (fun _ _ => rfl)) pe_int (nomark _))
      (pss_cons (ps_set (i := 3) sc_L_draw.nd rfl (.inl rfl) (pe_op op_mod (pe_callTy call_int1 (by rfl) T.b_int bt_int (pa_cons (pe_ix ix_list (pv 0) pe_int (fun _ _ => rfl)) pa_nil)) (pv 1)))
      (pss_cons (ps_asg (pe_op op_fdiv (pe_ix ix_list (pv 0) pe_int (fun _ _ => rfl)) (pv 1)) (pg_sub (pv 0) pe_int set_list))
      (pss_one (ps_ret (pv 3)))))
      pss_nil)
    (pss_cons (ps_asg (pe_op op_add (pe_ix ix_list (pv 0) pe_int (fun _ _ => rfl)) pe_int) (pg_sub (pv 0) pe_int set_list))
    (pss_cons (ps_set (i := 4) sc_L_draw.nd rfl (.inl rfl) (pe_op op_mod (pe_callTy call_int1 (by rfl) T.b_int bt_int (pa_cons (pe_op op_mul (pe_callTy call_int1 (by rfl) T.b_int bt_int (pa_cons (pe_op op_add (pe_ix ix_list (pv 0) pe_int (fun _ _ => rfl)) (pe_op op_mul pe_int (pe_ix ix_list (pv 0) pe_int (fun _ _ => rfl)))) pa_nil)) pe_int) pa_nil)) pe_int))
    (pss_cons (ps_set (i := 4) sc_L_draw.nd rfl (.inl rfl) (pe_op op_mod (pe_callTy call_int1 (by rfl) T.b_int bt_int (pa_cons (pe_op op_mul (pv 4) (pe_op op_add (pe_op op_fdiv (pv 4) pe_int) pe_int)) pa_nil)) pe_int))
    (pss_cons (ps_set (i := 4) sc_L_draw.nd rfl (.inl rfl) (pe_op op_mod (pe_callTy call_int1 (by rfl) T.b_int bt_int (pa_cons (pe_op op_mul (pv 4) (pe_op op_add (pe_op op_fdiv (pv 4) pe_int) pe_int)) pa_nil)) pe_int))
    (pss_one (ps_ret (pe_op op_mod (pe_callTy call_int1 (by rfl) T.b_int bt_int (pa_cons (pe_op op_fdiv (pv 4) pe_int) pa_nil)) (pv 1)))))))))), ?_⟩
  refine seq_by (fun σ' H' => ∃ x2 x3 x4, σ' = [some (.ref h), some (.int (m : Nat)), x2, x3, x4] ∧ But h H H' ∧ Hand H' h l ns n) (fun N hN => ?_) (fun σ' H1 hP => ?_)
  · dsimp only [tVar, tC, tAdd, tSub, tMul, t2I, tCmp, tIsN, tNotN, tB, tAnd, tOr, tNot, tAndV, tOrV, tNotV, tIf, tSeq, tNext, tDrop, tRet, tRetN, tIfS, tAsg, tAug, tPar, gName, gNil, gCons, gSub, tOp, tUn, tTest, tChain, tCons, tNil, tTup, tLst, tCall, tCB, tMake, tFld, sFld, tNoPart, tPart, tSl, tBM, tBM0, rI0, rI, tYes, Cx.nox, Cx.blk, cxOf, List.nil_append, List.cons_append]
    obtain ⟨⟨a, b, c, d, e, hc, hd⟩, hl, hne, hns⟩ := id hh
    refine ⟨_, rfl, hx e (k := 2) rfl ⟨rfl, _, rfl, ?_⟩⟩
    have hno : N (start n_L_draw [.ref h, .int (m : Nat)]) H := hN _ _ ⟨_, _, _, rfl, But.refl h H, hh⟩
    by_cases hb : b = 0
    · subst hb
      refine ifT (by simp) ⟨_, rfl, hx e (k := 1) rfl ⟨_, rfl, hx e (k := 0) rfl ⟨_, _, rfl, ⟨l, _, rfl, .inl (SqL.of hl), rfl⟩, _, _, rfl, rfl, _, rfl, ?_⟩⟩⟩
      rw [List.length_map]
      by_cases hlt : a < ns.length
      · refine ifT (decide_eq_true (by omega)) ⟨_, rfl, hx e (k := 0) rfl ⟨_, rfl, hx e (k := 1) rfl ⟨l, ns.map V.int, (a : Nat), .int ns[a], rfl, rfl, SqL.of hl, ?_, ?_⟩⟩⟩
        · unfold atI
          rw [ixN_nat (by rw [List.length_map]; exact hlt)]
          simp [hlt]
        · have hcell : 0 ≤ ns[a] := hns _ (List.getElem_mem hlt)
          generalize ns[a] = z at hcell ⊢
          have e1 : upd H h (.lst [.ref l, .int ((a : Nat) + 1), .int ((0 : Nat) : Int), .int (c : Nat), .int (d : Nat)]) h = some (.lst [.ref l, .int ((a : Nat) + 1), .int ((0 : Nat) : Int), .int (c : Nat), .int (d : Nat)]) := upd_same
          refine ⟨_, rfl, hx e (k := 1) rfl ⟨_, _, rfl, rfl, _, rfl, h, _, _, 1, rfl, rfl, e, rfl, ?_⟩⟩
          refine ⟨_, rfl, hx e1 (k := 3) rfl ⟨_, _, rfl, rfl, .inr (by decide), _, rfl, _, _, rfl, rfl, _, _, rfl, rfl, .inl ⟨_, rfl, _, _, rfl, rfl, by decide, _, rfl, h, _, _, 3, rfl, rfl, e1, rfl, ?_⟩⟩⟩
          have g3 : 0 ≤ (((c : Nat) : Int) * 69621 + z + 11) % 2147483629 ∧ (((c : Nat) : Int) * 69621 + z + 11) % 2147483629 < 2147483629 := ⟨Int.emod_nonneg _ (by decide), Int.emod_lt_of_pos _ (by decide)⟩
          generalize (((c : Nat) : Int) * 69621 + z + 11) % 2147483629 = u at g3 ⊢
          have e2 : upd (upd H h (.lst [.ref l, .int ((a : Nat) + 1), .int ((0 : Nat) : Int), .int (c : Nat), .int (d : Nat)])) h (.lst [.ref l, .int ((a : Nat) + 1), .int ((0 : Nat) : Int), .int u, .int (d : Nat)]) h = some (.lst [.ref l, .int ((a : Nat) + 1), .int ((0 : Nat) : Int), .int u, .int (d : Nat)]) := upd_same
          have b2 : But h H (upd (upd H h (.lst [.ref l, .int ((a : Nat) + 1), .int ((0 : Nat) : Int), .int (c : Nat), .int (d : Nat)])) h (.lst [.ref l, .int ((a : Nat) + 1), .int ((0 : Nat) : Int), .int u, .int (d : Nat)])) := (But.put e).trans (But.put e1)
          have ea : ((a : Nat) : Int) + 1 = ((a + 1 : Nat) : Int) := by omega
          have eu : u = (u.toNat : Nat) := by omega
          have ez : z = (z.toNat : Nat) := by omega
          refine ⟨_, rfl, _, _, rfl, rfl, ⟨by decide, by decide, by decide⟩, _, _, rfl, rfl, _, rfl, ?_⟩
          by_cases hbig : (10 : Int) ^ (18 : Int).toNat ≤ z
          · refine ifT (decide_eq_true hbig) ⟨_, rfl, _, rfl, h, _, _, 2, rfl, rfl, e2, rfl, hN _ _ ⟨_, _, _, rfl, b2.trans (But.put e2), ⟨a + 1, z.toNat, u.toNat, d, ?_, by omega, hd⟩, tkl hl (b2.trans (But.put e2)) hne, hne, hns⟩⟩
            rw [← ea, ← eu, ← ez]
            exact upd_same
          · refine ifF (decide_eq_false hbig) (hN _ _ ⟨_, _, _, rfl, b2, ⟨a + 1, 0, u.toNat, d, ?_, by omega, hd⟩, tkl hl b2 hne, hne, hns⟩)
            rw [← ea, ← eu]
            exact e2
      · exact ifF (decide_eq_false (by omega)) hno
    · exact ifF (by simp; omega) (ifF rfl hno)
  obtain ⟨x2, x3, x4, rfl, b1, hh1⟩ := hP
  refine seq_by (fun σ' H' => ∃ x2 x3 x4, σ' = [some (.ref h), some (.int (m : Nat)), x2, x3, x4] ∧ But h H H' ∧ Hand H' h l ns n) (fun N hN => ?_) (fun σ' H2 hP => ?_)
  · dsimp only [tVar, tC, tAdd, tSub, tMul, t2I, tCmp, tIsN, tNotN, tB, tAnd, tOr, tNot, tAndV, tOrV, tNotV, tIf, tSeq, tNext, tDrop, tRet, tRetN, tIfS, tAsg, tAug, tPar, gName, gNil, gCons, gSub, tOp, tUn, tTest, tChain, tCons, tNil, tTup, tLst, tCall, tCB, tMake, tFld, sFld, tNoPart, tPart, tSl, tBM, tBM0, rI0, rI, tYes, Cx.nox, Cx.blk, cxOf, List.nil_append, List.cons_append]
    obtain ⟨⟨a, b, c, d, e, hc, hd⟩, hl, hne, hns⟩ := hh1
    refine ⟨_, rfl, hx e (k := 2) rfl ⟨_, _, rfl, rfl, _, rfl, ?_⟩⟩
    by_cases hb : (0 : Int) < (b : Nat)
    · have e3 : upd H1 h (.lst [.ref l, .int (a : Nat), .int ((b : Nat) / (m : Nat) : Int), .int (c : Nat), .int (d : Nat)]) h = some (.lst [.ref l, .int (a : Nat), .int ((b : Nat) / (m : Nat) : Int), .int (c : Nat), .int (d : Nat)]) := upd_same
      have hh3 : Hand (upd H1 h (.lst [.ref l, .int (a : Nat), .int ((b : Nat) / (m : Nat) : Int), .int (c : Nat), .int (d : Nat)])) h l ns (n + 1) := ⟨⟨a, b / m, c, d, by rw [Int.natCast_ediv]; exact e3, hc, by omega⟩, tkl hl (But.put e) hne, hne, hns⟩
      refine ifT (decide_eq_true hb) ⟨_, rfl, hx e (k := 2) rfl (.inl ⟨_, rfl, _, rfl, _, _, rfl, rfl, by omega, _, rfl, hx e (k := 2) rfl ⟨_, rfl, _, _, rfl, rfl, ⟨by omega, by omega⟩, _, rfl, h, _, _, 2, rfl, rfl, e, rfl, _, rfl, ?_⟩⟩)⟩
      have h1 : 0 ≤ ((b : Nat) : Int) % (m : Int) := Int.emod_nonneg _ (by omega)
      have h2 : ((b : Nat) : Int) % (m : Int) < m := Int.emod_lt_of_pos _ (by omega)
      have e4 : ((b : Nat) : Int) % (m : Int) = ((((b : Nat) : Int) % (m : Int)).toNat : Nat) := by omega
      show Q (.int (((b : Nat) : Int) % (m : Int))) _
      rw [e4]
      exact q _ _ (b1.trans (But.put e)) hh3 (by omega)
    · exact ifF (decide_eq_false hb) (hN _ _ ⟨_, _, _, rfl, b1, ⟨a, b, c, d, e, hc, hd⟩, hl, hne, hns⟩)
  obtain ⟨x2', x3', x4', rfl, b2, hh2⟩ := hP
  dsimp only [tVar, tC, tAdd, tSub, tMul, t2I, tCmp, tIsN, tNotN, tB, tAnd, tOr, tNot, tAndV, tOrV, tNotV, tIf, tSeq, tNext, tDrop, tRet, tRetN, tIfS, tAsg, tAug, tPar, gName, gNil, gCons, gSub, tOp, tUn, tTest, tChain, tCons, tNil, tTup, tLst, tCall, tCB, tMake, tFld, sFld, tNoPart, tPart, tSl, tBM, tBM0, rI0, rI, tYes, Cx.nox, Cx.blk, cxOf, List.nil_append, List.cons_append]
  obtain ⟨⟨a, b, c, d, e, hc, hd⟩, hl, hne, hns⟩ := hh2
  have e3 : upd H2 h (.lst [.ref l, .int (a : Nat), .int (b : Nat), .int (c : Nat), .int ((d : Nat) + 1)]) h = some (.lst [.ref l, .int (a : Nat), .int (b : Nat), .int (c : Nat), .int ((d : Nat) + 1)]) := upd_same
  have b3 : But h H (upd H2 h (.lst [.ref l, .int (a : Nat), .int (b : Nat), .int (c : Nat), .int ((d : Nat) + 1)])) := b2.trans (But.put e)
  have hh3 : Hand (upd H2 h (.lst [.ref l, .int (a : Nat), .int (b : Nat), .int (c : Nat), .int ((d : Nat) + 1)])) h l ns (n + 1) := ⟨⟨a, b, c, d + 1, e3, hc, by omega⟩, tkl hl (But.put e) hne, hne, hns⟩
  refine ⟨_, rfl, hx e (k := 4) rfl ⟨_, _, rfl, rfl, _, rfl, h, _, _, 4, rfl, rfl, e, rfl, ?_⟩⟩
  show ∃ v, _ ∧ _
  refine ⟨_, rfl, hx e3 (k := 3) rfl ⟨_, rfl, hx e3 (k := 4) rfl ⟨_, _, rfl, rfl, .inl (by decide), _, _, rfl, rfl, .inl ⟨_, rfl, _, _, rfl, rfl, .inr (by decide), .inl ⟨_, rfl, ?_⟩⟩⟩⟩⟩
  refine ⟨_, _, rfl, rfl, by decide, ?_⟩
  have n1 : ∀ z : Int, 0 ≤ z % 2147483647 ∧ z % 2147483647 < 2147483647 := fun z => ⟨Int.emod_nonneg _ (by decide), Int.emod_lt_of_pos _ (by decide)⟩
  have g1 := n1 (((c : Nat) + 7919 * ((d : Nat) + 1)) * 48271)
  generalize ((((c : Nat) : Int) + 7919 * (((d : Nat) : Int) + 1)) * 48271) % 2147483647 = u1 at g1 ⊢
  refine ⟨_, rfl, _, rfl, _, _, rfl, rfl, ⟨by decide, by decide⟩, _, _, rfl, rfl, _, _, rfl, rfl, .inl ⟨by omega, by omega⟩, .inl ⟨_, rfl, _, _, rfl, rfl, by decide, ?_⟩⟩
  have g2 := n1 (u1 * (u1 / 1009 + 69621))
  generalize (u1 * (u1 / 1009 + 69621)) % 2147483647 = u2 at g2 ⊢
  refine ⟨_, rfl, _, rfl, _, _, rfl, rfl, ⟨by decide, by decide⟩, _, _, rfl, rfl, _, _, rfl, rfl, .inl ⟨by omega, by omega⟩, .inl ⟨_, rfl, _, _, rfl, rfl, by decide, ?_⟩⟩
  generalize (u2 * (u2 / 2003 + 40692)) % 2147483399 = u3
  refine ⟨_, rfl, _, _, rfl, rfl, ⟨by decide, by decide⟩, .inl ⟨_, rfl, _, rfl, _, _, rfl, rfl, by omega, ?_⟩⟩
  have h1 : 0 ≤ (u3 / 16) % (m : Int) := Int.emod_nonneg _ (by omega)
  have h2 : (u3 / 16) % (m : Int) < m := Int.emod_lt_of_pos _ (by omega)
  have e4 : (u3 / 16) % (m : Int) = (((u3 / 16) % (m : Int)).toNat : Nat) := by omega
  show Q (.int ((u3 / 16) % (m : Int))) _
  rw [e4]
  exact q _ _ b3 hh3 (by omega)
end
/-- H' is H but for the hand, and may have more -/
def Bu (h : Addr) (H H' : Hp) : Prop := (∀ b o, b ≠ h → H b = some o → H' b = some o) ∧ Tk H H'
theorem Bu.refl (h : Addr) (H : Hp) : Bu h H H := ⟨fun _ _ _ e => e, Tk.refl _⟩
theorem But.bu {h : Addr} {H H' : Hp} (a : But h H H') : Bu h H H' := ⟨fun b o nb e => by rw [a.2.2 b nb]; exact e, a.2.1⟩
theorem Bu.same {h : Addr} {H H' : Hp} (s : Same H H') : Bu h H H' := ⟨fun b o _ e => s b o e, Tk.same s⟩
theorem Bu.trans {h : Addr} {H H1 H2 : Hp} (a : Bu h H H1) (b : Bu h H1 H2) : Bu h H H2 := ⟨fun c o nc e => b.1 c o nc (a.1 c o nc e), a.2.trans b.2⟩
theorem Bu.new {h p : Addr} {H H1 : Hp} {o : HO} (a : Bu h H H1) (n : H1 p = none) : Bu h H (upd H1 p o) := a.trans (.same (same_upd n))
/-- a list of ours is written -/
theorem Bu.put {h p : Addr} {H H1 : Hp} {xs : List V} {o : HO} (a : Bu h H H1) (n : H p = none) (e : H1 p = some (.lst xs)) : Bu h H (upd H1 p o) := ⟨fun c o' nc q => by
  rw [upd_ne (ne_of_none q n)]
  exact a.1 c o' nc q, a.2.trans (Tk.lst e)⟩
theorem Hand.has {H : Hp} {h l : Addr} {ns : List Int} {n : Nat} (x : Hand H h l ns n) : H h ≠ none ∧ H l ≠ none := by
  obtain ⟨⟨a, b, c, d, e, _⟩, e2, _⟩ := x
  exact ⟨fun z => (by rw [e] at z; cases z), fun z => (by rw [e2] at z; cases z)⟩
theorem Hand.same {H H' : Hp} {h l : Addr} {ns : List Int} {n : Nat} (s : Same H H') (x : Hand H h l ns n) : Hand H' h l ns n := by
  obtain ⟨⟨a, b, c, d, e, h1, h2⟩, e2, h3⟩ := x
  exact ⟨⟨a, b, c, d, s _ _ e, h1, h2⟩, s _ _ e2, h3⟩
/-- something else is written -/
theorem Hand.out {H H1 : Hp} {h l p : Addr} {ns : List Int} {n m : Nat} {o : HO} (x : Hand H h l ns m) (y : Hand H1 h l ns n) (e : H p = none) : Hand (upd H1 p o) h l ns n := by
  obtain ⟨n1, n2⟩ := x.has
  obtain ⟨⟨a, b, c, d, e1, h1, h2⟩, e2, h3⟩ := y
  exact ⟨⟨a, b, c, d, by rw [upd_ne fun (z : h = p) => n1 (by rw [z]; exact e)]; exact e1, h1, h2⟩, by rw [upd_ne fun (z : l = p) => n2 (by rw [z]; exact e)]; exact e2, h3⟩
theorem Hand.ne {H : Hp} {h l p : Addr} {ns : List Int} {n : Nat} (x : Hand H h l ns n) (e : H p = none) : p ≠ h := fun z => x.has.1 (z ▸ e)
theorem Hand.up {H : Hp} {h l : Addr} {ns : List Int} {n m : Nat} (x : Hand H h l ns n) (k : n ≤ m) : Hand H h l ns m := by
  obtain ⟨⟨a, b, c, d, e, h1, h2⟩, e2, h3⟩ := x
  exact ⟨⟨a, b, c, d, e, h1, by omega⟩, e2, h3⟩
/-- nothing stands -/
def nob : Hp := fun _ => none
theorem nob_same (H : Hp) : Same nob H := fun _ _ e => nomatch e
end UG
end
section
/-! Unitgrids, the law's hand, a drawn unit. -/
namespace UG
open PySem PySem.Spec PyProof.Rows L2 RZ
section
variable {P : Program} {w : World} {K : PySem.W.Frag} {mg : Str → Option Value} {base : Heap}
theorem IsL.bu {h l : Addr} {H H' : Hp} {ds : List PyData} (b : Bu h H H') (ne : l ≠ h) (x : IsL K H l ds) : IsL K H' l ds := let ⟨xs, e, a⟩ := x; ⟨xs, b.1 _ _ ne e, a.tk b.2⟩
theorem r_appU {h l fo : Addr} {ns : List Int} {m m0 : Nat} {H0 H : Hp} {ds : List PyData} {v : V} {d : PyData} {Q : VK} (b : Bu h H0 H) (n0 : H0 fo = none) (hd : Hand H0 h l ns m0) (h1 : Hand H h l ns m) (hl : IsL K H fo ds) (hv : Is K H v d) (hz : ds.length < 1000)
    (q : ∀ H', Bu h H0 H' → Hand H' h l ns m → IsL K H' fo (ds ++ [d]) → Q .non H') : rAppend (.ref fo) [v] H Q := by
  obtain ⟨xs, e, a⟩ := hl
  exact ⟨fo, xs, v, rfl, rfl, e, by rw [a.length]; exact lt_line (by omega), q _ (b.put n0 e) (hd.out h1 n0) (IsL.put e (a.snoc hv))⟩
def sp_L_hand (K : PySem.W.Frag) : Sp := fun vs H Q _ => ∃ x, vs = [x] ∧ ∃ (l : Addr) (ns : List Int), x = .ref l ∧ SqL K H l (ns.map V.int) ∧ ns.length ≤ 63 ∧ ∀ H' h l' ns', Same H H' → H h = none → Hand H' h l' ns' 0 → Q (.ref h) H'
abbrev n_L_hand : List Str := ["_law_script", "_law_cells", "_law_cell"]
theorem sc_L_hand : FnScope n_L_hand ["_law_script"] (defScope s_L_hand) := ⟨rfl, rfl, rfl, by decide +kernel, rfl, by decide +kernel, by decide +kernel⟩
theorem ok_L_hand (T : Txt K mg) : Ok P w K mg base "_law_hand" ["_law_script"] 1 (sp_L_hand K) := by
  refine T.x_L_hand.ok sc_L_hand (fun _ _ _ _ _ _ us hl => match us, hl with | [_], _ => rfl) (fun vs H Q E h => by obtain ⟨_, rfl, _⟩ := h; rfl) (fun f cdv A outer s H vs Q E hr h => ?_)
  obtain ⟨_, rfl, l, ns, rfl, hl, hn, q⟩ := h
  refine ⟨_, (pss_cons (ps_setLc (i := 1) (own := [("_law_cell", 2)]) rfl sc_L_hand.nd rfl rfl (sw_true rfl rfl rfl (by decide +kernel)) (pi_list (pe_slice sl_list (pv 0) po_none (po_some pe_int))) (blkOk_by (N := n_L_hand) (sc := (defScope s_L_hand)) (by decide +kernel)) (fun _ _ _ _ _ => (pg_name (i := 2) sc_L_hand.nd rfl (.inl rfl))) (fun _ _ _ _ _ => pts_nil) (fun _ _ _ _ _ => (pe_callB call_abs (by rfl) T.b_abs bt_abs (pa_cons (pe_callTy call_int1 (by rfl) T.b_int bt_int (pa_cons (pv 2) pa_nil)) pa_nil))))
    (pss_one (ps_ret (pe_lst (pa_cons (pv 1) (pa_cons pe_int (pa_cons pe_int (pa_cons (pe_op op_add pe_int (pe_callB call_lenO (by rfl) T.b_len bt_len (pa_cons (pv 1) pa_nil))) (pa_cons pe_int pa_nil))))))))), ?_⟩
  dsimp only [tVar, tC, tAdd, tSub, tMul, t2I, tCmp, tIsN, tNotN, tB, tAnd, tOr, tNot, tAndV, tOrV, tNotV, tIf, tSeq, tNext, tDrop, tRet, tRetN, tIfS, tAsg, tAug, tPar, gName, gNil, gCons, gSub, tOp, tUn, tTest, tChain, tCons, tNil, tTup, tLst, tCall, tCB, tMake, tFld, sFld, tNoPart, tPart, tSl, tBM, tBM0, rI0, rI, tYes, Cx.nox, Cx.blk, cxOf, List.nil_append, List.cons_append]
  have cut : ∃ ms : List Int, cutV (ns.map V.int) none (some 63) = ms.map V.int ∧ ms.length ≤ 63 := by
    unfold cutV
    rw [← List.map_drop, ← List.map_take]
    exact ⟨_, rfl, by rw [List.length_take, List.length_drop]; omega⟩
  obtain ⟨ms, ecut, hms⟩ := cut
  refine lcG (fun J H1 => ∃ a, J = Itl K a ∧ Same H H1 ∧ H1 a = some (.lst (ms.map V.int))) (fun R r => ⟨_, rfl, 63, rfl, l, _, rfl, hl, fun p np => ⟨p, rfl, ⟨_, SqL.of upd_same⟩, r _ _ ⟨p, rfl, same_upd np, by rw [← ecut]; exact upd_same⟩⟩⟩) (fun J H1 hJ => ?_)
  obtain ⟨a, rfl, s1, ha⟩ := hJ
  refine ⟨_, H1, _, feedL (SqL.of ha), fun L i acc H' => Same H1 H' ∧ acc = (ms.take i).map fun z => V.int (if z < 0 then -z else z), fun L hL => ⟨same_upd hL, rfl⟩, fun _ _ _ _ h => h.1, fun L i x acc H2 H3 hL hi hp hl2 hle s2 it => ?_, fun L acc H2 hL hp hl2 hle => ?_⟩
  · obtain ⟨s3, rfl⟩ := hp
    rw [List.getElem?_map] at it
    cases hz : ms[i]? with
    | none => rw [hz] at it; cases it
    | some z =>
      rw [hz] at it
      cases it
      dsimp only [tVar, tC, tAdd, tSub, tMul, t2I, tCmp, tIsN, tNotN, tB, tAnd, tOr, tNot, tAndV, tOrV, tNotV, tIf, tSeq, tNext, tDrop, tRet, tRetN, tIfS, tAsg, tAug, tPar, gName, gNil, gCons, gSub, tOp, tUn, tTest, tChain, tCons, tNil, tTup, tLst, tCall, tCB, tMake, tFld, sFld, tNoPart, tPart, tSl, tBM, tBM0, rI0, rI, tYes, Cx.nox, Cx.blk, cxOf, List.nil_append, List.cons_append]
      refine ⟨rfl, ifT rfl ⟨_, rfl, .inl ⟨_, rfl, _, rfl, ?_⟩⟩⟩
      rw [List.length_map] at hi
      refine LcGot.mk (s2 _ _ hl2) hle (lt_line (by omega)) ⟨(s3.trans s2).out hL, ?_⟩
      rw [List.take_succ, hz, List.map_append]
      rfl
  · obtain ⟨s3, rfl⟩ := hp
    rw [List.length_map, List.take_length] at hl2
    have hcells : (ms.map fun z => V.int (if z < 0 then -z else z)) = (ms.map fun z : Int => if z < 0 then -z else z).map V.int := by rw [List.map_map]; rfl
    rw [hcells] at hl2
    refine ⟨_, rfl, _, rfl, _, _, rfl, LenO.l hl2, _, _, rfl, rfl, (show 5 ≤ sizeLine by decide), fun p np => ?_⟩
    have ne : L ≠ p := fun z => by rw [z, np] at hl2; cases hl2
    refine q _ _ L (ms.map fun z : Int => if z < 0 then -z else z) ((s1.trans s3).new np) ((s1.trans s3).free np) ⟨⟨0, 0, 1 + ms.length, 0, ?_, by omega, Nat.le_refl _⟩, by rw [upd_ne ne]; exact hl2, ne, fun z hz => ?_⟩
    · rw [upd_same, List.length_map, List.length_map]
      simp
    · obtain ⟨y, _, rfl⟩ := List.mem_map.mp hz
      split <;> omega
/-- a drawn unit -/
def sp_L_unit (K : PySem.W.Frag) : Sp := fun vs H Q _ => ∃ x y z, vs = [x, y, z] ∧ ∃ (h l : Addr) (ns : List Int) (n b m : Nat), x = .ref h ∧ Hand H h l ns n ∧ n < 100000 ∧ y = .int (b : Nat) ∧ b ≤ 2 ∧ z = .int (m : Nat) ∧ 1 ≤ m ∧ m ≤ 2 ∧
  ∀ H' v u, Bu h H H' → Hand H' h l ns (n + 4) → Is K H' v (un u) → u.length = b → (∀ k ∈ u, -(2 * (m : Int)) ≤ k ∧ k ≤ 2 * m) → Q v H'
abbrev n_L_unit : List Str := ["_law_hand_here", "_law_bases", "_law_most", "_law_found", "_law_k", "_law_below"]
theorem sc_L_unit : FnScope n_L_unit ["_law_hand_here", "_law_bases", "_law_most"] (defScope s_L_unit) := ⟨rfl, rfl, rfl, by decide +kernel, rfl, by decide +kernel, by decide +kernel⟩
theorem ok_L_unit (T : Txt K mg) : Ok P w K mg base "_law_unit" ["_law_hand_here", "_law_bases", "_law_most"] 3 (sp_L_unit K) := by
  refine T.x_L_unit.ok sc_L_unit (fun _ _ _ _ _ _ us hl => match us, hl with | [_, _, _], _ => rfl) (fun vs H Q E h => by obtain ⟨_, _, _, rfl, _⟩ := h; rfl) (fun f cdv A outer s H vs Q E hr h => ?_)
  obtain ⟨_, _, _, rfl, h, l, ns, n, b, m, rfl, hh, hn, rfl, hb, rfl, hm1, hm2, q⟩ := h
  refine ⟨_, (pss_cons (ps_set (i := 3) sc_L_unit.nd rfl (.inl rfl) (pe_lst pa_nil))
    (pss_cons (ps_for PassesOwn.never rfl (pi_range1 rfl T.b_range (pa_cons (pv 1) pa_nil)) (pg_name (i := 4) sc_L_unit.nd rfl (.inl rfl))
      (pss_cons (ps_set (i := 5) sc_L_unit.nd rfl (.inl rfl) (pe_ix ix_list (pe_lst (pa_cons pe_int (pa_cons pe_int (pa_cons pe_int (pa_cons pe_int pa_nil))))) (pc (ok_L_draw T) hr rfl (pa_cons (pv 0) (pa_cons pe_int pa_nil))) (fun _ _ => rfl)))
      (pss_one (ps_expr (pe_bm PySem.F.plainAttrs_list PySem.F.slot_list_append PySem.F.type_list_append mt_append (pv 3) (pa_cons (pc (ok_L_lowest T) hr rfl (pa_cons (pe_op op_sub (pc (ok_L_draw T) hr rfl (pa_cons (pv 0) (pa_cons (pe_op op_add (pe_op op_mul pe_int (pv 2)) pe_int) pa_nil))) (pv 2)) (pa_cons (pv 5) pa_nil))) pa_nil))))))
    (pss_one (ps_ret (pe_callTy call_tuple_of (by rfl) T.b_tuple bt_tuple (pa_cons (pv 3) pa_nil)))))), ?_⟩
  dsimp only [tVar, tC, tAdd, tSub, tMul, t2I, tCmp, tIsN, tNotN, tB, tAnd, tOr, tNot, tAndV, tOrV, tNotV, tIf, tSeq, tNext, tDrop, tRet, tRetN, tIfS, tAsg, tAug, tPar, gName, gNil, gCons, gSub, tOp, tUn, tTest, tChain, tCons, tNil, tTup, tLst, tCall, tCB, tMake, tFld, sFld, tNoPart, tPart, tSl, tBM, tBM0, rI0, rI, tYes, Cx.nox, Cx.blk, cxOf, List.nil_append, List.cons_append]
  refine ⟨Nat.zero_le _, fun fo nf => ?_⟩
  refine forF (B := nob) (feedR 0 b) (fun R r => ⟨_, rfl, _, rfl, by omega, by omega, r⟩)
    (fun i σ H' => ∃ y4 y5 u, σ = [some (.ref h), some (.int (b : Nat)), some (.int (m : Nat)), some (.ref fo), y4, y5] ∧ Bu h H H' ∧ Hand H' h l ns (n + 2 * i) ∧ IsL K H' fo (u.map fr) ∧ u.length = i ∧ ∀ k ∈ u, -(2 * (m : Int)) ≤ k ∧ k ≤ 2 * m)
    ⟨_, _, [], rfl, (Bu.refl h H).new nf, hh.same (same_upd nf), IsL.mk nf .nil, rfl, fun _ h => nomatch h⟩ (fun _ _ _ _ => nob_same _) (fun i x σ H1 H2 hi hP s it => ?_) (fun σ H1 hP => ?_)
  · obtain ⟨y4, y5, u, rfl, b1, h1, hu, hlen, hbd⟩ := hP
    dsimp only [tVar, tC, tAdd, tSub, tMul, t2I, tCmp, tIsN, tNotN, tB, tAnd, tOr, tNot, tAndV, tOrV, tNotV, tIf, tSeq, tNext, tDrop, tRet, tRetN, tIfS, tAsg, tAug, tPar, gName, gNil, gCons, gSub, tOp, tUn, tTest, tChain, tCons, tNil, tTup, tLst, tCall, tCB, tMake, tFld, sFld, tNoPart, tPart, tSl, tBM, tBM0, rI0, rI, tYes, Cx.nox, Cx.blk, cxOf, List.nil_append, List.cons_append]
    subst it
    have nh := hh.ne nf
    have h2 := h1.same s
    have b2 := b1.trans (.same s)
    refine ⟨by decide, fun p np => ⟨_, rfl, _, _, rfl, h, l, ns, _, 4, rfl, h2.same (same_upd np), by omega, rfl, by omega, by omega, fun H3 r b3 h3 hr4 => ?_⟩⟩
    have b4 := (b2.new (o := .lst [.int 1, .int 1, .int 1, .int 2]) np).trans b3.bu
    have ep : H3 p = some (.lst [.int 1, .int 1, .int 1, .int 2]) := by
      rw [b3.2.2 p (h2.ne np)]
      exact upd_same
    have hat : ∃ bl : Int, (bl = 1 ∨ bl = 2) ∧ atI [V.int 1, V.int 1, V.int 1, V.int 2] ((r : Nat) : Int) = some (.int bl) := by
      match r, hr4 with
      | 0, _ => exact ⟨1, .inl rfl, rfl⟩
      | 1, _ => exact ⟨1, .inl rfl, rfl⟩
      | 2, _ => exact ⟨1, .inl rfl, rfl⟩
      | 3, _ => exact ⟨2, .inr rfl, rfl⟩
    obtain ⟨bl, hbl, hat⟩ := hat
    have hu3 : IsL K H3 fo (u.map fr) := ((hu.same s).same (same_upd np)).bu b3.bu nh
    refine ⟨p, _, _, _, rfl, rfl, SqL.of ep, hat, _, rfl, hu3.ty, _, rfl, _, rfl, _, _, rfl, rfl, .inl (by decide), _, _, rfl, rfl, ?_⟩
    refine ⟨_, _, rfl, h, l, ns, _, 2 * m + 1, rfl, h3, by omega, by simp, by omega, by omega, fun H5 r2 b5 h5 hr5 => ?_⟩
    have hk : ∃ k : Int, 2 * (((r2 : Nat) : Int) - (m : Nat)) = k * bl ∧ -(2 * (m : Int)) ≤ k ∧ k ≤ 2 * m := by
      rcases hbl with e | e
      · exact ⟨2 * (((r2 : Nat) : Int) - (m : Nat)), by rw [e, Int.mul_one], by omega, by omega⟩
      · exact ⟨((r2 : Nat) : Int) - (m : Nat), by rw [e, Int.mul_comm], by omega, by omega⟩
    obtain ⟨k, ek, hk1, hk2⟩ := hk
    refine ⟨_, rfl, _, _, rfl, rfl, _, rfl, _, _, rfl, _, _, k, rfl, rfl, by omega, by omega, ek, fun H6 z s6 hz => ?_⟩
    refine r_appU ((b4.trans b5.bu).trans (.same s6)) nf hh (h5.same s6) ((hu3.bu b5.bu nh).same s6) hz (by rw [List.length_map]; omega) fun H7 b7 h7 hu7 => ?_
    refine ⟨_, _, u ++ [k], rfl, b7, h7.up (by omega), by rw [List.map_append]; exact hu7, by rw [List.length_append, hlen]; rfl, fun j hj => ?_⟩
    rcases List.mem_append.mp hj with hj | hj
    · exact hbd j hj
    · rw [List.mem_singleton] at hj
      subst hj
      exact ⟨hk1, hk2⟩
  · obtain ⟨y4, y5, u, rfl, b1, h1, hu, hlen, hbd⟩ := hP
    dsimp only [tVar, tC, tAdd, tSub, tMul, t2I, tCmp, tIsN, tNotN, tB, tAnd, tOr, tNot, tAndV, tOrV, tNotV, tIf, tSeq, tNext, tDrop, tRet, tRetN, tIfS, tAsg, tAug, tPar, gName, gNil, gCons, gSub, tOp, tUn, tTest, tChain, tCons, tNil, tTup, tLst, tCall, tCB, tMake, tFld, sFld, tNoPart, tPart, tSl, tBM, tBM0, rI0, rI, tYes, Cx.nox, Cx.blk, cxOf, List.nil_append, List.cons_append]
    obtain ⟨xs, e, ha⟩ := hu
    refine ⟨_, rfl, fo, xs, rfl, .inl ⟨SqL.of e, fun p np => ?_⟩⟩
    exact q _ _ u (b1.new np) ((h1.same (same_upd np)).up (by omega)) (Is.mk np ha) hlen hbd
end
end UG
end
section
/-! Unitgrids, the law's drawn rows. -/
namespace UG
open PySem PySem.Spec PyProof.Rows L2 RZ
/-- H without the hand -/
def del (h : Addr) (H : Hp) : Hp := fun b => if b = h then none else H b
theorem del_ne {h b : Addr} {H : Hp} (n : b ≠ h) : del h H b = H b := if_neg n
theorem del_at (h : Addr) (H : Hp) : del h H h = none := if_pos rfl
theorem del_same (h : Addr) (H : Hp) : Same (del h H) H := fun b o e => by
  by_cases n : b = h
  · subst n; rw [del_at] at e; cases e
  · rwa [del_ne n] at e
theorem Bu.del {h : Addr} {H H' : Hp} (b : Bu h H H') : Same (del h H) (del h H') := fun c o e => by
  by_cases n : c = h
  · subst n; rw [del_at] at e; cases e
  · rw [del_ne n] at e ⊢
    exact b.1 c o n e
theorem del_none {h b : Addr} {H : Hp} (n : H b = none) : UG.del h H b = none := by
  by_cases e : b = h
  · subst e; exact del_at _ _
  · rw [del_ne e]; exact n
theorem del_upd {h p : Addr} {H : Hp} {o : HO} (n : p ≠ h) : UG.del h (upd H p o) = upd (UG.del h H) p o := by
  funext b
  by_cases e : b = h
  · subst e
    rw [del_at, upd_ne (Ne.symm n), del_at]
  · rw [del_ne e]
    by_cases e2 : b = p
    · subst e2
      rw [upd_same, upd_same]
    · rw [upd_ne e2, upd_ne e2, del_ne e]
theorem Hand.tk {H : Hp} {h l : Addr} {ns : List Int} {n : Nat} (x : Hand H h l ns n) : Tk H (UG.del h H) := fun a xs r => by
  obtain ⟨⟨_, _, _, _, e, _⟩, _⟩ := x
  have ne : a ≠ h := fun z => by
    subst z
    rcases r with r | ⟨o, r⟩ <;> rw [r] at e <;> cases e
  rcases r with r | ⟨o, r⟩
  · exact .inl (by rw [del_ne ne]; exact r)
  · exact .inr ⟨o, by rw [del_ne ne]; exact r⟩
theorem Own.push {B H : Hp} {f a : Addr} {xs : List V} (o : Own B H f) (e : H f = some (.lst xs)) (n : B a = none) : Own B (upd H f (.lst (xs ++ [.ref a]))) f := ⟨o.1, fun ys g b hb => by
  rw [upd_same] at g
  cases g
  rcases List.mem_append.mp hb with hb | hb
  · exact o.2 _ e b hb
  · rw [List.mem_singleton] at hb
    cases hb
    exact n⟩
section
variable {P : Program} {w : World} {K : PySem.W.Frag} {mg : Str → Option Value} {base : Heap}
theorem IsL.del {h l f : Addr} {ns : List Int} {n : Nat} {H : Hp} {ds : List PyData} (x : Hand H h l ns n) (ne : f ≠ h) (a : IsL K H f ds) : IsL K (UG.del h H) f ds := let ⟨xs, e, b⟩ := a; ⟨xs, by rw [del_ne ne]; exact e, b.tk x.tk⟩
/-- a unit of exponents up to a number -/
def Hf (b m : Nat) (u : Ut) : Prop := u.length = b ∧ ∀ k ∈ u, -(2 * (m : Int)) ≤ k ∧ k ≤ 2 * m
theorem Hf.ok {b m : Nat} {u : Ut} (h : Hf b m u) (hm : m ≤ 2) : OkU b u := ⟨h.1, fun k hk => by have := h.2 k hk; omega⟩
theorem mem_zip : ∀ {u v : List Int} {k : Int}, k ∈ List.zipWith (· + ·) u v → ∃ a ∈ u, ∃ c ∈ v, k = a + c
  | [], _, _, h => by simp at h
  | _ :: _, [], _, h => by simp at h
  | a :: u, c :: v, k, h => by
    rw [List.zipWith_cons_cons] at h
    rcases List.mem_cons.mp h with h | h
    · exact ⟨a, List.mem_cons_self, c, List.mem_cons_self, h⟩
    · obtain ⟨a', h1, c', h2, e⟩ := mem_zip h
      exact ⟨a', List.mem_cons_of_mem _ h1, c', List.mem_cons_of_mem _ h2, e⟩
theorem Hf.add {b : Nat} {u v : Ut} (h : Hf b 1 u) (g : Hf b 1 v) : OkU b (ua u v) := ⟨by rw [ua_len2, h.1, g.1]; exact Nat.min_self _, fun k hk => by
  obtain ⟨a, ha, c, hc, rfl⟩ := mem_zip hk
  have := h.2 a ha
  have := g.2 c hc
  omega⟩
/-- drawn units, one by one -/
def UP (K : PySem.W.Frag) (H0 : Hp) (h l : Addr) (ns : List Int) (n b : Nat) : Addr → Nat → List V → Hp → Prop := fun _ i acc H => ∃ us : List Ut, us.length = i ∧ IsA K H acc (us.map un) ∧ (∀ u ∈ us, Hf b 1 u) ∧ Bu h H0 H ∧ Hand H h l ns (n + 4 * i)
theorem unit_step {H0 H2 H3 : Hp} {h l L : Addr} {ns : List Int} {n b i : Nat} {acc : List V} {E : XK} (hL : H0 L = none) (hh : Hand H0 h l ns n) (hp : UP K H0 h l ns n b L i acc H2) (e : H2 L = some (.lst acc)) (hle : acc.length ≤ i) (s : Same H2 H3) (hi : i < 4) (hn : n < 90000) (hb : b ≤ 2) :
    sp_L_unit K [.ref h, .int (b : Nat), .int 1] H3 (LcGot (UP K H0 h l ns n b) L i) E := by
  obtain ⟨us, hu, ha, hf, b2, h2⟩ := hp
  refine ⟨_, _, _, rfl, h, l, ns, n + 4 * i, b, 1, rfl, h2.same s, by omega, rfl, hb, rfl, Nat.le_refl _, by omega, fun H4 v u b4 h4 hv hlen hbd => ?_⟩
  have nL := hh.ne hL
  have e4 := b4.1 _ _ nL (s _ _ e)
  refine LcGot.mk e4 hle (lt_line (by omega)) ⟨us ++ [u], by rw [List.length_append, hu]; rfl, ?_, fun x hx => ?_, ((b2.trans (.same s)).trans b4).put hL e4, (hh.out h4 hL).up (by omega)⟩
  · rw [List.map_append]
    exact (((ha.same s).tk b4.2).snoc hv).tk (Tk.lst e4)
  · rcases List.mem_append.mp hx with hx | hx
    · exact hf x hx
    · rw [List.mem_singleton] at hx
      subst hx
      exact ⟨hlen, hbd⟩
theorem UP.zero {H0 : Hp} {h l L : Addr} {ns : List Int} {n b : Nat} (hh : Hand H0 h l ns n) (hL : H0 L = none) : UP K H0 h l ns n b L 0 [] (upd H0 L (.lst [])) := ⟨[], rfl, .nil, (fun _ h => nomatch h), (Bu.refl h H0).new hL, hh.same (same_upd hL)⟩
def sp_L_rows (K : PySem.W.Frag) : Sp := fun vs H Q _ => ∃ x y z, vs = [x, y, z] ∧ ∃ (h l : Addr) (ns : List Int) (n m b : Nat), x = .ref h ∧ Hand H h l ns n ∧ n < 50000 ∧ y = .int (m : Nat) ∧ 1 ≤ m ∧ m ≤ 4 ∧ z = .int (b : Nat) ∧ 1 ≤ b ∧ b ≤ 2 ∧
  ∀ H' v g, Bu h H H' → Hand H' h l ns (n + 130) → OkG b g → g.length = m → Is K H' v (rws g) → Q v H'
abbrev n_L_rows : List Str := ["_law_hand_here", "_law_many", "_law_bases", "_law_full", "_law_kind", "_law_firsts", "_law_seconds", "_law_rows_here", "_law_i", "_law_row", "_law_j", "_law_unit_here", "_law_turn"]
theorem sc_L_rows : FnScope n_L_rows ["_law_hand_here", "_law_many", "_law_bases"] (defScope s_L_rows) := ⟨rfl, rfl, rfl, by decide +kernel, rfl, by decide +kernel, by decide +kernel⟩
theorem ok_L_rows (T : Txt K mg) : Ok P w K mg base "_law_rows" ["_law_hand_here", "_law_many", "_law_bases"] 5 (sp_L_rows K) := by
  refine T.x_L_rows.ok sc_L_rows (fun _ _ _ _ _ _ us hl => match us, hl with | [_, _, _], _ => rfl) (fun vs H Q E h => by obtain ⟨_, _, _, rfl, _⟩ := h; rfl) (fun f cdv A outer s H vs Q E hr h => ?_)
  obtain ⟨_, _, _, rfl, h, l, ns, n, m, b, rfl, hh, hn, rfl, hm1, hm2, rfl, hb1, hb2, q⟩ := h
  refine ⟨_, (pss_cons (ps_set (i := 3) sc_L_rows.nd rfl (.inl rfl) (pc (ok_L_draw T) hr rfl (pa_cons (pv 0) (pa_cons pe_int pa_nil))))
    (pss_cons (ps_set (i := 4) sc_L_rows.nd rfl (.inl rfl) (pc (ok_L_draw T) hr rfl (pa_cons (pv 0) (pa_cons pe_int pa_nil))))
    (pss_cons (ps_setLc (i := 5) (own := [("_law_i", 8)]) rfl sc_L_rows.nd rfl rfl (sw_true rfl rfl rfl (by decide +kernel)) (pi_range1 rfl T.b_range (pa_cons (pv 1) pa_nil)) (blkOk_by (N := n_L_rows) (sc := (defScope s_L_rows)) (by decide +kernel)) (fun _ _ _ _ _ => (pg_name (i := 8) sc_L_rows.nd rfl (.inl rfl))) (fun _ _ _ _ _ => pts_nil) (fun _ _ _ _ _ => (pc (ok_L_unit T) hr rfl (pa_cons (pv 0) (pa_cons (pv 2) (pa_cons pe_int pa_nil))))))
    (pss_cons (ps_setLc (i := 6) (own := [("_law_j", 10)]) rfl sc_L_rows.nd rfl rfl (sw_true rfl rfl rfl (by decide +kernel)) (pi_range1 rfl T.b_range (pa_cons (pv 1) pa_nil)) (blkOk_by (N := n_L_rows) (sc := (defScope s_L_rows)) (by decide +kernel)) (fun _ _ _ _ _ => (pg_name (i := 10) sc_L_rows.nd rfl (.inl rfl))) (fun _ _ _ _ _ => pts_nil) (fun _ _ _ _ _ => (pc (ok_L_unit T) hr rfl (pa_cons (pv 0) (pa_cons (pv 2) (pa_cons pe_int pa_nil))))))
    (pss_cons (ps_set (i := 7) sc_L_rows.nd rfl (.inl rfl) (pe_lst pa_nil))
    (pss_cons (ps_for PassesOwn.never rfl (pi_range1 rfl T.b_range (pa_cons (pv 1) pa_nil)) (pg_name (i := 8) sc_L_rows.nd rfl (.inl rfl))
      (pss_cons (ps_set (i := 9) sc_L_rows.nd rfl (.inl rfl) (pe_lst pa_nil))
      (pss_cons (ps_for PassesOwn.never rfl (pi_range1 rfl T.b_range (pa_cons (pv 1) pa_nil)) (pg_name (i := 10) sc_L_rows.nd rfl (.inl rfl))
        (pss_cons (ps_set (i := 11) sc_L_rows.nd rfl (.inl rfl) (pc (ok_L_unit_sum T) hr rfl (pa_cons (pe_ix ix_list (pv 5) (pv 8) (fun _ _ => rfl)) (pa_cons (pe_ix ix_list (pv 6) (pv 10) (fun _ _ => rfl)) (pa_cons pe_int pa_nil)))))
        (pss_cons (ps_if (pt_cmpR op_eq (pv 4) pe_int (nomark _))
          (pss_one (ps_set (i := 11) sc_L_rows.nd rfl (.inl rfl) (pc (ok_L_unit T) hr rfl (pa_cons (pv 0) (pa_cons (pv 2) (pa_cons pe_int pa_nil))))))
          pss_nil)
        (pss_one (ps_expr (pe_bm PySem.F.plainAttrs_list PySem.F.slot_list_append PySem.F.type_list_append mt_append (pv 9) (pa_cons (pe_ifExp (pt_cmpR op_lt (pc (ok_L_draw T) hr rfl (pa_cons (pv 0) (pa_cons pe_int pa_nil))) (pv 3) (nomark _)) pe_non (pv 11)) pa_nil)))))))
      (pss_one (ps_expr (pe_bm PySem.F.plainAttrs_list PySem.F.slot_list_append PySem.F.type_list_append mt_append (pv 7) (pa_cons (pv 9) pa_nil)))))))
    (pss_cons (ps_if (pt_cmpR op_eq (pv 4) pe_int (nomark _))
      (pss_one (ps_for PassesOwn.never rfl (pi_range1 rfl T.b_range (pa_cons (pe_op op_add pe_int (pc (ok_L_draw T) hr rfl (pa_cons (pv 0) (pa_cons pe_int pa_nil)))) pa_nil)) (pg_name (i := 12) sc_L_rows.nd rfl (.inl rfl))
        (pss_one (ps_asg (pc (ok_L_unit T) hr rfl (pa_cons (pv 0) (pa_cons (pv 2) (pa_cons pe_int pa_nil)))) (pg_sub (pe_ix ix_list (pv 7) (pc (ok_L_draw T) hr rfl (pa_cons (pv 0) (pa_cons (pv 1) pa_nil))) (fun _ _ => rfl)) (pc (ok_L_draw T) hr rfl (pa_cons (pv 0) (pa_cons (pv 1) pa_nil))) set_list)))))
      pss_nil)
    (pss_one (ps_ret (pe_callTy call_tuple_of (by rfl) T.b_tuple bt_tuple (pa_cons (pe_lc (own := [("_law_row", 9)]) rfl sc_L_rows.nd (pi_list (pv 7)) (blkOk_by (N := n_L_rows) (sc := (defScope s_L_rows)) (by decide +kernel)) (fun _ _ _ _ _ => (pg_name (i := 9) sc_L_rows.nd rfl (.inl rfl))) (fun _ _ _ _ _ => pts_nil) (fun _ _ _ _ _ => (pe_callTy (call_tuple_ofK K (by rfl)) (by rfl) T.b_tuple bt_tuple (pa_cons (pv 9) pa_nil)))) pa_nil))))))))))), ?_⟩
  dsimp only [tVar, tC, tAdd, tSub, tMul, t2I, tCmp, tIsN, tNotN, tB, tAnd, tOr, tNot, tAndV, tOrV, tNotV, tIf, tSeq, tNext, tDrop, tRet, tRetN, tIfS, tAsg, tAug, tPar, gName, gNil, gCons, gSub, tOp, tUn, tTest, tChain, tCons, tNil, tTup, tLst, tCall, tCB, tMake, tFld, sFld, tNoPart, tPart, tSl, tBM, tBM0, rI0, rI, tYes, Cx.nox, Cx.blk, cxOf, List.nil_append, List.cons_append]
  refine ⟨_, rfl, _, _, rfl, h, l, ns, _, 4, rfl, hh, by omega, rfl, by omega, by omega, fun H1 full b1 h1 _ => ?_⟩
  refine ⟨_, rfl, _, _, rfl, h, l, ns, _, 3, rfl, h1, by omega, rfl, by omega, by omega, fun H2 kind b2 h2 _ => ?_⟩
  refine lcF (B := nob) (feedR 0 m) (fun R r => ⟨_, rfl, _, rfl, by omega, by omega, r⟩) (UP K H2 h l ns (n + 2) b) (fun L hL => UP.zero h2 hL) (fun _ _ _ _ _ => nob_same _) (fun L i x acc H3 H4 hL hi hp e hle s it => ?_) (fun L acc H3 hL hp e hle => ?_)
  · dsimp only [tVar, tC, tAdd, tSub, tMul, t2I, tCmp, tIsN, tNotN, tB, tAnd, tOr, tNot, tAndV, tOrV, tNotV, tIf, tSeq, tNext, tDrop, tRet, tRetN, tIfS, tAsg, tAug, tPar, gName, gNil, gCons, gSub, tOp, tUn, tTest, tChain, tCons, tNil, tTup, tLst, tCall, tCB, tMake, tFld, sFld, tNoPart, tPart, tSl, tBM, tBM0, rI0, rI, tYes, Cx.nox, Cx.blk, cxOf, List.nil_append, List.cons_append]
    refine ⟨rfl, ifT rfl ⟨_, rfl, _, rfl, unit_step hL h2 hp e hle s (by omega) (by omega) hb2⟩⟩
  obtain ⟨us, hus, hua, huf, b3, h3⟩ := hp
  have b03 := (b1.bu.trans b2.bu).trans b3
  have hF : IsL K H3 L (us.map un) := ⟨acc, e, hua⟩
  have nL := h2.ne hL
  refine lcF (B := nob) (feedR 0 m) (fun R r => ⟨_, rfl, _, rfl, by omega, by omega, r⟩) (UP K H3 h l ns (n + 2 + 4 * m) b) (fun L hL => UP.zero h3 hL) (fun _ _ _ _ _ => nob_same _) (fun L2 i x acc2 H4 H5 hL2 hi hp e2 hle2 s it => ?_) (fun L2 acc2 H4 hL2 hp e2 hle2 => ?_)
  · dsimp only [tVar, tC, tAdd, tSub, tMul, t2I, tCmp, tIsN, tNotN, tB, tAnd, tOr, tNot, tAndV, tOrV, tNotV, tIf, tSeq, tNext, tDrop, tRet, tRetN, tIfS, tAsg, tAug, tPar, gName, gNil, gCons, gSub, tOp, tUn, tTest, tChain, tCons, tNil, tTup, tLst, tCall, tCB, tMake, tFld, sFld, tNoPart, tPart, tSl, tBM, tBM0, rI0, rI, tYes, Cx.nox, Cx.blk, cxOf, List.nil_append, List.cons_append]
    refine ⟨rfl, ifT rfl ⟨_, rfl, _, rfl, unit_step hL2 h3 hp e2 hle2 s (by omega) (by omega) hb2⟩⟩
  obtain ⟨vs, hvs, hva, hvf, b4, h4⟩ := hp
  have b04 := b03.trans b4
  have hS : IsL K H4 L2 (vs.map un) := ⟨acc2, e2, hva⟩
  have nL2 := h3.ne hL2
  have hF4 : IsL K H4 L (us.map un) := hF.bu b4 nL
  refine ⟨Nat.zero_le _, fun R nR => ?_⟩
  have nRh := h4.ne nR
  have hU : ∀ u ∈ us, Hf b 1 u := huf
  have out0 : ∀ {H' : Hp}, Bu h H4 H' → IsL K H' L (us.map un) ∧ IsL K H' L2 (vs.map un) := fun k => ⟨hF4.bu k nL, hS.bu k nL2⟩
  refine forF (B := nob) (feedR 0 m) (fun R r => ⟨_, rfl, _, rfl, by omega, by omega, r⟩)
    (fun i σ H' => ∃ y8 y9 y10 y11 y12, ∃ g : Gd, σ = [some (.ref h), some (.int (m : Nat)), some (.int (b : Nat)), some (.int (full : Nat)), some (.int (kind : Nat)), some (.ref L), some (.ref L2), some (.ref R), y8, y9, y10, y11, y12] ∧
      Bu h H4 H' ∧ Hand H' h l ns (n + 34 + 20 * i) ∧ IsLL K (UG.del h H') R (tcs g) ∧ Own H4 (UG.del h H') R ∧ g.length = i ∧ (∀ r ∈ g, r.length = m) ∧ ∀ r ∈ g, ∀ c ∈ r, OkC b c)
    ⟨_, _, _, _, _, [], rfl, (Bu.refl h H4).new nR, (h4.same (same_upd nR)).up (by omega), by rw [del_upd nRh]; exact IsLL.nil (del_none nR), ⟨nR, fun xs e a ha => by
      rw [del_upd nRh, upd_same] at e
      cases e
      exact nomatch ha⟩, rfl, fun _ h => (nomatch h), fun _ h => (nomatch h)⟩ (fun _ _ _ _ => nob_same _) (fun i x σ H5 H6 hi hP s it => ?_) (fun σ H5 hP => ?_)
  · obtain ⟨y8, y9, y10, y11, y12, g, rfl, b5, h5, hg, og, hgl, hgr, hgc⟩ := hP
    subst it
    have b6 := b5.trans (.same s)
    have h6 := h5.same s
    have hg6 := hg.same (Bu.del (.same s : Bu h H5 H6))
    have og6 := og.same hg (Bu.del (.same s : Bu h H5 H6))
    dsimp only [tVar, tC, tAdd, tSub, tMul, t2I, tCmp, tIsN, tNotN, tB, tAnd, tOr, tNot, tAndV, tOrV, tNotV, tIf, tSeq, tNext, tDrop, tRet, tRetN, tIfS, tAsg, tAug, tPar, gName, gNil, gCons, gSub, tOp, tUn, tTest, tChain, tCons, tNil, tTup, tLst, tCall, tCB, tMake, tFld, sFld, tNoPart, tPart, tSl, tBM, tBM0, rI0, rI, tYes, Cx.nox, Cx.blk, cxOf, List.nil_append, List.cons_append]
    refine ⟨Nat.zero_le _, fun r0 nr => ?_⟩
    have nrh := h6.ne nr
    have nr4 : H4 r0 = none := by
      cases e0 : H4 r0 with
      | none => rfl
      | some o => rw [b6.1 r0 o nrh e0] at nr; cases nr
    refine forF (B := nob) (feedR 0 m) (fun R r => ⟨_, rfl, _, rfl, by omega, by omega, r⟩)
      (fun j σ H' => ∃ y10 y11 y12, ∃ r : List (Option Ut), σ = [some (.ref h), some (.int (m : Nat)), some (.int (b : Nat)), some (.int (full : Nat)), some (.int (kind : Nat)), some (.ref L), some (.ref L2), some (.ref R), some (.int (0 + (i : Nat))), some (.ref r0), y10, y11, y12] ∧
        Bu h H6 H' ∧ Hand H' h l ns (n + 34 + 20 * i + 5 * j) ∧ IsL K H' r0 (r.map cel) ∧ r.length = j ∧ ∀ c ∈ r, OkC b c)
      ⟨_, _, _, [], rfl, (Bu.refl h H6).new nr, h6.same (same_upd nr), IsL.mk nr .nil, rfl, fun _ h => (nomatch h)⟩ (fun _ _ _ _ => nob_same _) (fun j x σ H7 H8 hj hP s7 it => ?_) (fun σ H7 hP => ?_)
    · obtain ⟨y10, y11, y12, r, rfl, b7, h7, hr7, hrl, hrc⟩ := hP
      subst it
      have b8 := b7.trans (.same s7)
      have h8 := h7.same s7
      have hr8 := hr7.same s7
      dsimp only [gName]
      have hi' : us[i]? = some us[i] := List.getElem?_eq_getElem (by omega)
      have hj' : vs[j]? = some vs[j] := List.getElem?_eq_getElem (by omega)
      have hui := huf _ (List.getElem_mem (show i < us.length by omega))
      have hvj := hvf _ (List.getElem_mem (show j < vs.length by omega))
      refine seq_by (fun σ' H' => ∃ z, σ' = [some (.ref h), some (.int (m : Nat)), some (.int (b : Nat)), some (.int (full : Nat)), some (.int (kind : Nat)), some (.ref L), some (.ref L2), some (.ref R), some (.int (0 + (i : Nat))), some (.ref r0), some (.int (0 + (j : Nat))), some z, y12] ∧
        Same H8 H' ∧ Is K H' z (un (ua us[i] vs[j]))) (fun N hN => ?_) (fun σ9 H9 hP => ?_)
      · dsimp only [tVar, tC, tAdd, tSub, tMul, t2I, tCmp, tIsN, tNotN, tB, tAnd, tOr, tNot, tAndV, tOrV, tNotV, tIf, tSeq, tNext, tDrop, tRet, tRetN, tIfS, tAsg, tAug, tPar, gName, gNil, gCons, gSub, tOp, tUn, tTest, tChain, tCons, tNil, tTup, tLst, tCall, tCB, tMake, tFld, sFld, tNoPart, tPart, tSl, tBM, tBM0, rI0, rI, tYes, Cx.nox, Cx.blk, cxOf, List.nil_append, List.cons_append]
        obtain ⟨q1, q2⟩ := out0 (b6.trans b8)
        refine ⟨_, rfl, _, rfl, r_ixLn rfl q1 (by rw [Int.zero_add]) (by rw [List.getElem?_map, hi']; rfl) fun v1 hv1 => ?_⟩
        refine ⟨_, rfl, _, rfl, r_ixLn rfl q2 (by rw [Int.zero_add]) (by rw [List.getElem?_map, hj']; rfl) fun v2 hv2 => ?_⟩
        refine ⟨_, _, _, rfl, us[i], vs[j], hv1, hv2, rfl, by rw [hui.1]; omega, fun H9 z s9 hz => ?_⟩
        exact hN _ _ ⟨z, rfl, s9, hz⟩
      obtain ⟨z, rfl, s9, hz⟩ := hP
      refine seq_by (fun σ' H' => ∃ z u, σ' = [some (.ref h), some (.int (m : Nat)), some (.int (b : Nat)), some (.int (full : Nat)), some (.int (kind : Nat)), some (.ref L), some (.ref L2), some (.ref R), some (.int (0 + (i : Nat))), some (.ref r0), some (.int (0 + (j : Nat))), some z, y12] ∧
        Bu h H8 H' ∧ Hand H' h l ns (n + 34 + 20 * i + 5 * j + 4) ∧ Is K H' z (un u) ∧ OkU b u) (fun N hN => ?_) (fun σ10 H10 hP => ?_)
      · dsimp only [tVar, tC, tAdd, tSub, tMul, t2I, tCmp, tIsN, tNotN, tB, tAnd, tOr, tNot, tAndV, tOrV, tNotV, tIf, tSeq, tNext, tDrop, tRet, tRetN, tIfS, tAsg, tAug, tPar, gName, gNil, gCons, gSub, tOp, tUn, tTest, tChain, tCons, tNil, tTup, tLst, tCall, tCB, tMake, tFld, sFld, tNoPart, tPart, tSl, tBM, tBM0, rI0, rI, tYes, Cx.nox, Cx.blk, cxOf, List.nil_append, List.cons_append]
        refine ⟨_, rfl, rfl, _, rfl, ?_⟩
        by_cases hk : kind = 0
        · refine ifT (by rw [hk]; rfl) ⟨_, rfl, _, rfl, ?_⟩
          refine ⟨_, _, _, rfl, h, l, ns, _, b, 1, rfl, h8.same s9, by omega, rfl, hb2, rfl, Nat.le_refl _, by omega, fun H10 v u b10 h10 hv hlen hbd => ?_⟩
          exact hN _ _ ⟨v, u, rfl, (Bu.same s9).trans b10, h10, hv, Hf.ok ⟨hlen, hbd⟩ (by omega)⟩
        · refine ifF (by simp; omega) ?_
          exact hN _ _ ⟨z, _, rfl, .same s9, (h8.same s9).up (by omega), hz, hui.add hvj⟩
      obtain ⟨z, u, rfl, b10, h10, hz, hu⟩ := hP
      dsimp only [tVar, tC, tAdd, tSub, tMul, t2I, tCmp, tIsN, tNotN, tB, tAnd, tOr, tNot, tAndV, tOrV, tNotV, tIf, tSeq, tNext, tDrop, tRet, tRetN, tIfS, tAsg, tAug, tPar, gName, gNil, gCons, gSub, tOp, tUn, tTest, tChain, tCons, tNil, tTup, tLst, tCall, tCB, tMake, tFld, sFld, tNoPart, tPart, tSl, tBM, tBM0, rI0, rI, tYes, Cx.nox, Cx.blk, cxOf, List.nil_append, List.cons_append]
      have hr10 := hr8.bu b10 nrh
      refine ⟨_, rfl, hr10.ty, _, rfl, ?_⟩
      refine ⟨_, _, rfl, h, l, ns, _, 4, rfl, h10, by omega, rfl, by omega, by omega, fun H11 d b11 h11 _ => ?_⟩
      have fin : ∀ v c, Is K H11 v (cel c) → OkC b c → rAppend (.ref r0) [v] H11 fun _ H12 => ∃ y10' y11 y12', ∃ r : List (Option Ut), [some (.ref h), some (.int (m : Nat)), some (.int (b : Nat)), some (.int (full : Nat)), some (.int (kind : Nat)), some (.ref L), some (.ref L2), some (.ref R), some (.int (0 + (i : Nat))), some (.ref r0), some (.int (0 + (j : Nat))), some z, y12] = [some (.ref h), some (.int (m : Nat)), some (.int (b : Nat)), some (.int (full : Nat)), some (.int (kind : Nat)), some (.ref L), some (.ref L2), some (.ref R), some (.int (0 + (i : Nat))), some (.ref r0), y10', y11, y12'] ∧
          Bu h H6 H12 ∧ Hand H12 h l ns (n + 34 + 20 * i + 5 * (j + 1)) ∧ IsL K H12 r0 (r.map cel) ∧ r.length = j + 1 ∧ ∀ c ∈ r, OkC b c := by
        intro v c hv hc
        refine r_appU ((b8.trans b10).trans b11.bu) nr h6 h11 (hr10.bu b11.bu nrh) hv (by rw [List.length_map]; omega) fun H12 b12 h12 hr12 => ?_
        refine ⟨_, _, _, r ++ [c], rfl, b12, h12.up (by omega), by rw [List.map_append]; exact hr12, by rw [List.length_append, hrl]; rfl, fun c' hc' => ?_⟩
        rcases List.mem_append.mp hc' with hc' | hc'
        · exact hrc c' hc'
        · rw [List.mem_singleton] at hc'
          subst hc'
          exact hc
      refine ⟨_, rfl, _, _, rfl, rfl, _, rfl, ?_⟩
      by_cases hlt : ((d : Nat) : Int) < (full : Nat)
      · exact ifT (decide_eq_true hlt) (fin _ none .non fun u e => nomatch e)
      · exact ifF (decide_eq_false hlt) ⟨_, rfl, fin _ (some u) (hz.tk b11.2.1) fun u' e => by cases e; exact hu⟩
    · obtain ⟨y10', y11', y12', r, rfl, b7, h7, hr7, hrl, hrc⟩ := hP
      dsimp only [tVar, tC, tAdd, tSub, tMul, t2I, tCmp, tIsN, tNotN, tB, tAnd, tOr, tNot, tAndV, tOrV, tNotV, tIf, tSeq, tNext, tDrop, tRet, tRetN, tIfS, tAsg, tAug, tPar, gName, gNil, gCons, gSub, tOp, tUn, tTest, tChain, tCons, tNil, tTup, tLst, tCall, tCB, tMake, tFld, sFld, tNoPart, tPart, tSl, tBM, tBM0, rI0, rI, tYes, Cx.nox, Cx.blk, cxOf, List.nil_append, List.cons_append]
      have hg7 := hg6.same (Bu.del b7)
      have og7 := og6.same hg6 (Bu.del b7)
      have e7 := hg6
      obtain ⟨xs, ex, hxl⟩ := hg7.sq
      have exR : H7 R = some (.lst xs) := (del_ne nRh).symm.trans ex
      refine ⟨_, rfl, .inl ⟨rfl, _, SqL.of exR⟩, _, rfl, ?_⟩
      have hp := IsLL.push (l := r0) hg6 (Bu.del b7) (del_none nr) (IsL.del h7 nrh hr7) ex
      have hxlen : xs.length = i := by rw [hp.1]; unfold tcs; rw [List.length_map, hgl]
      refine ⟨R, xs, .ref r0, rfl, rfl, exR, by rw [hxlen]; exact lt_line (by omega), ?_⟩
      refine ⟨_, _, _, _, _, g ++ [r], rfl, (b6.trans b7).put nR exR, (h4.out h7 nR).up (by omega), ?_, ?_, by rw [List.length_append, hgl]; rfl, fun r' hr' => ?_, fun r' hr' => ?_⟩
      · rw [del_upd nRh]
        unfold tcs
        rw [List.map_append]
        exact hp.2
      · rw [del_upd nRh]
        exact og7.push ex nr4
      · rcases List.mem_append.mp hr' with hr' | hr'
        · exact hgr r' hr'
        · rw [List.mem_singleton] at hr'
          subst hr'
          exact hrl
      · rcases List.mem_append.mp hr' with hr' | hr'
        · exact hgc r' hr'
        · rw [List.mem_singleton] at hr'
          subst hr'
          exact hrc
  obtain ⟨y8, y9, y10, y11, y12, g, rfl, b5, h5, hg, og, hgl, hgr, hgc⟩ := hP
  dsimp only
  refine seq_by (fun σ' H' => ∃ y8 y9 y10 y11 y12, ∃ g : Gd, σ' = [some (.ref h), some (.int (m : Nat)), some (.int (b : Nat)), some (.int (full : Nat)), some (.int (kind : Nat)), some (.ref L), some (.ref L2), some (.ref R), y8, y9, y10, y11, y12] ∧
      Bu h H4 H' ∧ Hand H' h l ns (n + 130) ∧ IsLL K (UG.del h H') R (tcs g) ∧ g.length = m ∧ (∀ r ∈ g, r.length = m) ∧ ∀ r ∈ g, ∀ c ∈ r, OkC b c) (fun N hN => ?_) (fun σ6 H6 hP => ?_)
  · dsimp only [tVar, tC, tAdd, tSub, tMul, t2I, tCmp, tIsN, tNotN, tB, tAnd, tOr, tNot, tAndV, tOrV, tNotV, tIf, tSeq, tNext, tDrop, tRet, tRetN, tIfS, tAsg, tAug, tPar, gName, gNil, gCons, gSub, tOp, tUn, tTest, tChain, tCons, tNil, tTup, tLst, tCall, tCB, tMake, tFld, sFld, tNoPart, tPart, tSl, tBM, tBM0, rI0, rI, tYes, Cx.nox, Cx.blk, cxOf, List.nil_append, List.cons_append]
    refine ⟨_, rfl, rfl, _, rfl, ?_⟩
    by_cases hk : kind = 2
    · refine ifT (by rw [hk]; rfl) ?_
      refine forG (fun J H1 => ∃ k : Nat, J = Itr 0 k ∧ k ≤ 2 ∧ Bu h H5 H1 ∧ Hand H1 h l ns (n + 35 + 20 * m)) (fun R r => ⟨_, rfl, _, _, rfl, h, l, ns, _, 2, rfl, h5, by omega, rfl, by omega, by omega, fun H6 d b6 h6 hd => ?_⟩) (fun J H6 hJ => ?_)
      · exact ⟨_, _, rfl, rfl, _, rfl, by omega, by omega, r _ _ ⟨1 + d, by congr 1, by omega, b6.bu, h6.up (by omega)⟩⟩
      obtain ⟨k, rfl, hk2, b6, h6⟩ := hJ
      refine ⟨k, nob, _, feedR 0 k, fun i σ H' => ∃ y8 y9 y10 y11 y12, ∃ g : Gd, σ = [some (.ref h), some (.int (m : Nat)), some (.int (b : Nat)), some (.int (full : Nat)), some (.int (kind : Nat)), some (.ref L), some (.ref L2), some (.ref R), y8, y9, y10, y11, y12] ∧
        Bu h H4 H' ∧ Hand H' h l ns (n + 35 + 20 * m + 6 * i) ∧ IsLL K (UG.del h H') R (tcs g) ∧ Own H4 (UG.del h H') R ∧ g.length = m ∧ (∀ r ∈ g, r.length = m) ∧ ∀ r ∈ g, ∀ c ∈ r, OkC b c,
        ⟨_, _, _, _, _, g, rfl, b5.trans b6, h6, hg.same (Bu.del b6), og.same hg (Bu.del b6), hgl, hgr, hgc⟩, fun _ _ _ _ => nob_same _, fun i x σ H7 H8 hi hP s it => ?_, fun σ H7 hP => ?_⟩
      · obtain ⟨y8, y9, y10, y11, y12, g, rfl, b7, h7, hg, og, hgl, hgr, hgc⟩ := hP
        have b8 := b7.trans (.same s)
        have h8 := h7.same s
        have hg8 := hg.same (Bu.del (.same s : Bu h H7 H8))
        have og8 := og.same hg (Bu.del (.same s : Bu h H7 H8))
        dsimp only [tVar, tC, tAdd, tSub, tMul, t2I, tCmp, tIsN, tNotN, tB, tAnd, tOr, tNot, tAndV, tOrV, tNotV, tIf, tSeq, tNext, tDrop, tRet, tRetN, tIfS, tAsg, tAug, tPar, gName, gNil, gCons, gSub, tOp, tUn, tTest, tChain, tCons, tNil, tTup, tLst, tCall, tCB, tMake, tFld, sFld, tNoPart, tPart, tSl, tBM, tBM0, rI0, rI, tYes, Cx.nox, Cx.blk, cxOf, List.nil_append, List.cons_append]
        refine ⟨_, rfl, _, rfl, _, _, _, rfl, h, l, ns, _, b, 2, rfl, h8, by omega, rfl, hb2, rfl, by omega, Nat.le_refl _, fun H9 v u b9 h9 hv hlen hbd => ?_⟩
        have hg9 := hg8.same (Bu.del b9)
        have og9 := og8.same hg8 (Bu.del b9)
        refine ⟨_, rfl, _, rfl, _, rfl, _, _, rfl, h, l, ns, _, m, rfl, h9, by omega, rfl, by omega, by omega, fun H10 c1 b10 h10 hc1 => ?_⟩
        have hg10 := hg9.same (Bu.del b10.bu)
        have og10 := og9.same hg9 (Bu.del b10.bu)
        have hgi : g[c1]? = some g[c1] := List.getElem?_eq_getElem (by omega)
        have hti : (tcs g)[c1]? = some (g[c1].map cel) := by unfold tcs; rw [List.getElem?_map, hgi]; rfl
        obtain ⟨a, _, xs, ex, hxa⟩ := hg10.at hti
        have exR : H10 R = some (.lst xs) := (del_ne nRh).symm.trans ex
        refine ⟨R, xs, _, _, rfl, rfl, SqL.of exR, atI_nat hxa, ?_⟩
        refine ⟨_, rfl, _, rfl, _, _, rfl, h, l, ns, _, m, rfl, h10, by omega, rfl, by omega, by omega, fun H11 c2 b11 h11 hc2 => ?_⟩
        have hg11 := hg10.same (Bu.del b11.bu)
        have og11 := og10.same hg10 (Bu.del b11.bu)
        obtain ⟨a', xs', ys, f1, f2, f3, f4, f5, f6, f7⟩ := hg11.own_row og11 hti
        have ea : a = a' := by
          have e1 := Bu.del b11.bu _ _ ex
          rw [f1] at e1
          cases e1
          rw [hxa] at f2
          cases f2
          rfl
        subst ea
        have nah : a ≠ h := fun z => by rw [z, del_at] at f3; cases f3
        have eA : H11 a = some (.lst ys) := (del_ne nah).symm.trans f3
        have hgrow : g[c1].length = m := hgr _ (List.getElem_mem (by omega))
        have hys : ys.length = m := by rw [f4, List.length_map, hgrow]
        have hvv : Is K (UG.del h H11) v (un u) := ((hv.tk b10.2.1).tk b11.2.1).tk h11.tk
        obtain ⟨g1, g2⟩ := f7 c2 v (cel (some u)) hvv
        refine ⟨a, ys, _, c2, rfl, rfl, eA, by rw [hys]; exact ixN_nat hc2, ?_⟩
        have hset : tcs (g.set c1 (g[c1].set c2 (some u))) = (tcs g).set c1 ((g[c1].map cel).set c2 (cel (some u))) := by
          unfold tcs
          rw [List.map_set, List.map_set]
        refine ⟨_, _, _, _, _, g.set c1 (g[c1].set c2 (some u)), rfl, (((b8.trans b9).trans b10.bu).trans b11.bu).put f5 eA, (h4.out h11 f5).up (by omega), by rw [del_upd nah, hset]; exact g1, by rw [del_upd nah]; exact g2, by rw [List.length_set]; exact hgl, fun r hr => ?_, fun r hr c hc => ?_⟩
        · rcases List.mem_or_eq_of_mem_set hr with hr | hr
          · exact hgr r hr
          · rw [hr, List.length_set]; exact hgrow
        · rcases List.mem_or_eq_of_mem_set hr with hr | hr
          · exact hgc r hr c hc
          · rw [hr] at hc
            rcases List.mem_or_eq_of_mem_set hc with hc | hc
            · exact hgc _ (List.getElem_mem (by omega)) c hc
            · subst hc
              intro u' e
              cases e
              exact Hf.ok ⟨hlen, hbd⟩ (Nat.le_refl _)
      · obtain ⟨y8, y9, y10, y11, y12, g, rfl, b7, h7, hg, og, hgl, hgr, hgc⟩ := hP
        exact hN _ _ ⟨_, _, _, _, _, g, rfl, b7, h7.up (by omega), hg, hgl, hgr, hgc⟩
    · refine ifF (by simp; omega) ?_
      exact hN _ _ ⟨_, _, _, _, _, g, rfl, b5, h5.up (by omega), hg, hgl, hgr, hgc⟩
  obtain ⟨y8, y9, y10, y11, y12, g, rfl, b6, h6, hg, hgl, hgr, hgc⟩ := hP
  have hg' : IsLL K H6 R (tcs g) := hg.same (del_same h H6)
  obtain ⟨xs, ex, hxl⟩ := hg'.sq
  have hxl : xs.length = m := by rw [hxl]; unfold tcs; rw [List.length_map, hgl]
  dsimp only [tVar, tC, tAdd, tSub, tMul, t2I, tCmp, tIsN, tNotN, tB, tAnd, tOr, tNot, tAndV, tOrV, tNotV, tIf, tSeq, tNext, tDrop, tRet, tRetN, tIfS, tAsg, tAug, tPar, gName, gNil, gCons, gSub, tOp, tUn, tTest, tChain, tCons, tNil, tTup, tLst, tCall, tCB, tMake, tFld, sFld, tNoPart, tPart, tSl, tBM, tBM0, rI0, rI, tYes, Cx.nox, Cx.blk, cxOf, List.nil_append, List.cons_append]
  refine lcM (K := K) (f := fun i => row (g.getD i [])) (feedL (SqL.of ex)) (fun R' r => ⟨_, rfl, R, rfl, ⟨_, SqL.of ex⟩, r⟩) (fun L3 i x acc H7 H8 hL3 hi hp hl hle s it => ?_) (fun L3 H7 hL3 s7 hi7 => ?_)
  · obtain ⟨a, ds, rfl, hds, hla⟩ := hg'.row_of ex it
    have hig : g[i]? = some g[i] := List.getElem?_eq_getElem (by omega)
    have hds' : ds = g[i].map cel := by
      unfold tcs at hds
      rw [List.getElem?_map, hig] at hds
      cases hds
      rfl
    obtain ⟨ys, ey, hya⟩ := hla.same (hp.1.trans s)
    dsimp only [tVar, tC, tAdd, tSub, tMul, t2I, tCmp, tIsN, tNotN, tB, tAnd, tOr, tNot, tAndV, tOrV, tNotV, tIf, tSeq, tNext, tDrop, tRet, tRetN, tIfS, tAsg, tAug, tPar, gName, gNil, gCons, gSub, tOp, tUn, tTest, tChain, tCons, tNil, tTup, tLst, tCall, tCB, tMake, tFld, sFld, tNoPart, tPart, tSl, tBM, tBM0, rI0, rI, tYes, Cx.nox, Cx.blk, cxOf, List.nil_append, List.cons_append]
    refine ⟨rfl, ifT rfl ⟨_, rfl, a, ys, rfl, .inl ⟨SqL.of ey, fun p np => ?_⟩⟩⟩
    refine hp.got hL3 hl (s.trans (same_upd np)) hle (lt_line (by omega)) ?_
    have eg : g.getD i [] = g[i] := by rw [List.getD_eq_getElem?_getD, hig]; rfl
    show Is K _ _ (row (g.getD i []))
    rw [eg]
    have := Is.mk np hya
    rw [hds'] at this
    exact this
  · rw [hxl] at hi7
    refine r_tuple hi7 fun H8 z s8 hz => q H8 z g (b04.trans (b6.trans (.same (s7.trans s8)))) (h6.same (s7.trans s8)) ⟨hb1, hb2, by omega, by omega, fun r hr => by rw [hgl]; exact hgr r hr, hgc⟩ hgl ?_
    have e : (List.range m).map (fun i => row (g.getD i [])) = g.map row := by
      apply List.ext_getElem?
      intro i
      by_cases h : i < m
      · rw [List.getElem?_map, List.getElem?_range h, List.getElem?_map, List.getElem?_eq_getElem (by omega)]
        show some (row (g.getD i [])) = _
        rw [List.getD_eq_getElem?_getD, List.getElem?_eq_getElem (by omega)]
        rfl
      · rw [List.getElem?_eq_none_iff.mpr (by simp; omega), List.getElem?_eq_none_iff.mpr (by simp; omega)]
    rw [e] at hz
    exact hz
end
end UG
end
section
/-! Unitgrids: all placings, as the law goes through them; which lots are enough, by these. -/
namespace UG
open PySem PySem.Spec PyProof.Rows UM UL
/-- the columns at which a row has cells -/
def free (r : List (Option Ut)) : List Nat := (List.range r.length).filter fun j => (r.getD j none).isSome
def plS (r : List (Option Ut)) (p : List Nat) : List (List Nat) := ((free r).filter fun j => decide (j ∉ p)).map fun j => p ++ [j]
def plc (g : Gd) : List (List Nat) := g.foldl (fun found r => found.flatMap (plS r)) [[]]
theorem mem_free {r : List (Option Ut)} {j : Nat} : j ∈ free r ↔ j < r.length ∧ (r.getD j none).isSome = true := by
  unfold free
  rw [List.mem_filter, List.mem_range]
theorem mem_plS {r : List (Option Ut)} {p q : List Nat} : q ∈ plS r p ↔ ∃ j, j < r.length ∧ (r.getD j none).isSome = true ∧ j ∉ p ∧ q = p ++ [j] := by
  unfold plS
  rw [List.mem_map]
  constructor
  · rintro ⟨j, hj, rfl⟩
    rw [List.mem_filter, mem_free, decide_eq_true_eq] at hj
    exact ⟨j, hj.1.1, hj.1.2, hj.2, rfl⟩
  · rintro ⟨j, h1, h2, h3, rfl⟩
    exact ⟨j, by rw [List.mem_filter, mem_free, decide_eq_true_eq]; exact ⟨⟨h1, h2⟩, h3⟩, rfl⟩
theorem plc_snoc (g : Gd) (r : List (Option Ut)) : plc (g ++ [r]) = (plc g).flatMap (plS r) := by
  unfold plc
  rw [List.foldl_append]
  rfl
theorem plS_len (r : List (Option Ut)) (p : List Nat) : (plS r p).length ≤ r.length := by
  unfold plS free
  rw [List.length_map]
  refine Nat.le_trans (List.length_filter_le _ _) (Nat.le_trans (List.length_filter_le _ _) ?_)
  rw [List.length_range]
  exact Nat.le_refl _
theorem flat_len {α β : Type} (f : α → List β) {m : Nat} (h : ∀ a, (f a).length ≤ m) : ∀ l : List α, (l.flatMap f).length ≤ l.length * m
  | [] => by simp
  | a :: l => by
    rw [List.flatMap_cons, List.length_append, List.length_cons, Nat.succ_mul]
    have := flat_len f h l
    have := h a
    omega
theorem flat_len' {α β : Type} (f : α → List β) {m : Nat} : ∀ l : List α, (∀ a ∈ l, (f a).length ≤ m) → (l.flatMap f).length ≤ l.length * m
  | [], _ => by simp
  | a :: l, h => by
    rw [List.flatMap_cons, List.length_append, List.length_cons, Nat.succ_mul]
    have := flat_len' f l fun b hb => h b (List.mem_cons_of_mem _ hb)
    have := h a List.mem_cons_self
    omega
theorem snoc_ind {α : Type} {Q : List α → Prop} (h0 : Q []) (h1 : ∀ l a, Q l → Q (l ++ [a])) (l : List α) : Q l := by
  have : ∀ m : List α, Q m.reverse := by
    intro m
    induction m with
    | nil => exact h0
    | cons a m ih => rw [List.reverse_cons]; exact h1 _ _ ih
  have h := this l.reverse
  rwa [List.reverse_reverse] at h
instance (l S : List C) : Decidable (avoids l S) := by unfold avoids; infer_instance
theorem plc_len {m : Nat} : ∀ (g : Gd), (∀ r ∈ g, r.length ≤ m) → (plc g).length ≤ m ^ g.length := by
  intro g
  refine snoc_ind (Q := fun g : Gd => (∀ r ∈ g, r.length ≤ m) → (plc g).length ≤ m ^ g.length) (fun _ => by simp [plc]) (fun g r ih h => ?_) g
  · 
    rw [plc_snoc, List.length_append, List.length_singleton, Nat.pow_succ]
    have h1 := ih fun r hr => h r (List.mem_append_left _ hr)
    have h2 := flat_len (plS r) (fun p => Nat.le_trans (plS_len r p) (h r (List.mem_append_right _ (List.mem_singleton.mpr rfl)))) (plc g)
    exact Nat.le_trans h2 (Nat.mul_le_mul_right _ h1)
theorem mem_plc : ∀ (g : Gd) (p : List Nat), p ∈ plc g ↔ p.length = g.length ∧ p.Nodup ∧ ∀ i, i < g.length → p.getD i 0 < (g.getD i []).length ∧ ∃ u, ce g i (p.getD i 0) = some u := by
  intro g
  refine snoc_ind (Q := fun g : Gd => ∀ p : List Nat, p ∈ plc g ↔ p.length = g.length ∧ p.Nodup ∧ ∀ i, i < g.length → p.getD i 0 < (g.getD i []).length ∧ ∃ u, ce g i (p.getD i 0) = some u) (fun p => ?_) (fun g r ih p => ?_) g
  · show p ∈ [[]] ↔ _
    rw [List.mem_singleton]
    constructor
    · rintro rfl; exact ⟨rfl, List.nodup_nil, fun i h => absurd h (Nat.not_lt_zero _)⟩
    · intro h; exact List.eq_nil_of_length_eq_zero h.1
  · have old : ∀ i, i < g.length → (g ++ [r]).getD i [] = g.getD i [] := fun i hi => by rw [List.getD_eq_getElem?_getD, List.getElem?_append_left hi, ← List.getD_eq_getElem?_getD]
    have new : (g ++ [r]).getD g.length [] = r := by rw [List.getD_eq_getElem?_getD, List.getElem?_append_right (Nat.le_refl _), Nat.sub_self]; rfl
    have pold : ∀ (q : List Nat) j i, i < q.length → (q ++ [j]).getD i 0 = q.getD i 0 := fun q j i hi => by rw [List.getD_eq_getElem?_getD, List.getElem?_append_left hi, ← List.getD_eq_getElem?_getD]
    have pnew : ∀ (q : List Nat) j, (q ++ [j]).getD q.length 0 = j := fun q j => by rw [List.getD_eq_getElem?_getD, List.getElem?_append_right (Nat.le_refl _), Nat.sub_self]; rfl
    rw [plc_snoc, List.mem_flatMap]
    constructor
    · rintro ⟨q, hq, hp⟩
      obtain ⟨h1, h2, h3⟩ := (ih q).mp hq
      obtain ⟨j, j1, j2, j3, rfl⟩ := mem_plS.mp hp
      refine ⟨by rw [List.length_append, List.length_append, h1]; rfl, ?_, fun i hi => ?_⟩
      · rw [List.nodup_append]
        refine ⟨h2, by simp, fun a ha b hb e => ?_⟩
        rw [List.mem_singleton] at hb
        exact j3 (by rw [← hb, ← e]; exact ha)
      · rw [List.length_append, List.length_singleton] at hi
        by_cases hlt : i < g.length
        · rw [pold q j i (by omega), old i hlt]
          unfold ce
          rw [old i hlt]
          exact h3 i hlt
        · have e : i = g.length := by omega
          subst e
          unfold ce
          rw [new, ← h1, pnew]
          refine ⟨j1, ?_⟩
          exact Option.isSome_iff_exists.mp j2
    · rintro ⟨h1, h2, h3⟩
      rw [List.length_append, List.length_singleton] at h1
      rcases List.eq_nil_or_concat p with rfl | ⟨q, j, rfl⟩
      · simp at h1
      · rw [List.concat_eq_append] at *
        rw [List.length_append, List.length_singleton] at h1
        have hq : q.length = g.length := by omega
        refine ⟨q, (ih q).mpr ⟨hq, (List.nodup_append.mp h2).1, fun i hi => ?_⟩, mem_plS.mpr ⟨j, ?_⟩⟩
        · have := h3 i (by rw [List.length_append]; omega)
          rw [pold q j i (by omega), old i hi] at this
          unfold ce at this
          rw [old i hi] at this
          exact this
        · have := h3 g.length (by rw [List.length_append]; simp)
          unfold ce at this
          rw [new, ← hq, pnew] at this
          refine ⟨this.1, Option.isSome_iff_exists.mpr this.2, fun hm => ?_, rfl⟩
          exact (List.nodup_append.mp h2).2.2 j hm j (by simp) rfl
/-- they are the placings -/
theorem plc_pl {b : Nat} {g : Gd} (ok : OkG b g) {p : List Nat} : p ∈ plc g ↔ Pl g.length g p := by
  rw [mem_plc]
  have hrow : ∀ i, i < g.length → (g.getD i []).length = g.length := fun i hi => by
    rw [List.getD_eq_getElem?_getD, List.getElem?_eq_getElem hi]
    exact ok.sq _ (List.getElem_mem hi)
  have hget : ∀ i (hi : i < p.length), p.getD i 0 = p[i] := fun i hi => by rw [List.getD_eq_getElem?_getD, List.getElem?_eq_getElem hi]; rfl
  constructor
  · rintro ⟨h1, h2, h3⟩
    refine ⟨h1, ⟨⟨fun i hi => by rw [← hrow i hi]; exact (h3 i hi).1, fun i j hi hj e => ?_⟩, fun i hi => ⟨hi, by rw [← hrow i hi]; exact (h3 i hi).1, (h3 i hi).2⟩⟩⟩
    rw [hget i (by omega), hget j (by omega)] at e
    exact (List.getElem_inj h2).mp e
  · rintro ⟨h1, h2⟩
    refine ⟨h1, ?_, fun i hi => ⟨by rw [hrow i hi]; exact h2.lt i hi, (h2.at_ i hi).2.2⟩⟩
    rw [List.nodup_iff_pairwise_ne, List.pairwise_iff_getElem]
    intro i j hi hj hij e
    have := h2.inj i j (by omega) (by omega) (by show p.getD i 0 = p.getD j 0; rw [hget i hi, hget j hj, e])
    omega
/-- a placing as a list -/
theorem plc_of {b : Nat} {g : Gd} (ok : OkG b g) {q : Nat → Nat} (h : IsP g.length (Ed g.length g) q) : ∃ p ∈ plc g, (∀ i, i < g.length → p.getD i 0 = q i) := by
  have e : ∀ i, i < g.length → ((List.range g.length).map q).getD i 0 = q i := fun i hi => by rw [List.getD_eq_getElem?_getD, List.getElem?_map, List.getElem?_range hi]; rfl
  refine ⟨(List.range g.length).map q, (plc_pl ok).mpr ⟨by simp, ⟨⟨fun i hi => by rw [e i hi]; exact h.lt i hi, fun i j hi hj z => ?_⟩, fun i hi => by rw [e i hi]; exact h.at_ i hi⟩⟩, e⟩
  rw [e i hi, e j hj] at z
  exact h.inj i j hi hj z
theorem pcs_congr {n : Nat} {p q : Nat → Nat} (h : ∀ i, i < n → p i = q i) : pcs n p = pcs n q := by
  unfold pcs
  exact List.map_congr_left fun i hi => by rw [h i (List.mem_range.mp hi)]
theorem wP_congr {n b : Nat} {g : Gd} {p q : Nat → Nat} (h : ∀ i, i < n → p i = q i) : wP n b g p = wP n b g q := vec_congr fun k _ => sm_same fun i hi => by rw [h i hi]
/-- the family, by the list -/
theorem gf_iff {b : Nat} {g : Gd} (ok : OkG b g) {l : List C} {u : Ut} : (gf g.length b g).F l u ↔ ∃ p ∈ plc g, l = pcs g.length (pf p) ∧ u = wP g.length b g (pf p) := by
  constructor
  · rintro ⟨q, hq, rfl, rfl⟩
    obtain ⟨p, hp, e⟩ := plc_of ok hq
    exact ⟨p, hp, pcs_congr fun i hi => (e i hi).symm, wP_congr fun i hi => (e i hi).symm⟩
  · rintro ⟨p, hp, rfl, rfl⟩
    exact ⟨pf p, ((plc_pl ok).mp hp).is, rfl, rfl⟩
/-- the placings that a lot leaves -/
def left (n : Nat) (g : Gd) (S : List C) : List (List Nat) := (plc g).filter fun p => decide (avoids (pcs n (pf p)) S)
theorem enough_iff {b : Nat} {g : Gd} (ok : OkG b g) {S : List C} : enough (gf g.length b g) S ↔ left g.length g S ≠ [] ∧ ∀ p ∈ left g.length g S, ∀ q ∈ left g.length g S, wP g.length b g (pf p) = wP g.length b g (pf q) := by
  have mem : ∀ p, p ∈ left g.length g S ↔ p ∈ plc g ∧ avoids (pcs g.length (pf p)) S := fun p => by unfold left; rw [List.mem_filter, decide_eq_true_eq]
  constructor
  · rintro ⟨⟨l, u, hl, ha⟩, hall⟩
    obtain ⟨p, hp, rfl, rfl⟩ := (gf_iff ok).mp hl
    refine ⟨List.ne_nil_of_mem ((mem p).mpr ⟨hp, ha⟩), fun p' hp' q' hq' => ?_⟩
    obtain ⟨a1, a2⟩ := (mem p').mp hp'
    obtain ⟨c1, c2⟩ := (mem q').mp hq'
    exact hall _ _ _ _ ((gf_iff ok).mpr ⟨p', a1, rfl, rfl⟩) ((gf_iff ok).mpr ⟨q', c1, rfl, rfl⟩) a2 c2
  · rintro ⟨hne, hall⟩
    obtain ⟨p, hp⟩ := List.exists_mem_of_ne_nil _ hne
    obtain ⟨a1, a2⟩ := (mem p).mp hp
    refine ⟨⟨_, _, (gf_iff ok).mpr ⟨p, a1, rfl, rfl⟩, a2⟩, fun l u l' u' h1 h2 k1 k2 => ?_⟩
    obtain ⟨p1, q1, rfl, rfl⟩ := (gf_iff ok).mp h1
    obtain ⟨p2, q2, rfl, rfl⟩ := (gf_iff ok).mp h2
    exact hall _ ((mem p1).mpr ⟨q1, k1⟩) _ ((mem p2).mpr ⟨q2, k2⟩)
theorem live_iff {b : Nat} {g : Gd} (ok : OkG b g) {x : C} : UL.live (gf g.length b g) x ↔ x ∈ ((plc g).map fun p => pcs g.length (pf p)).flatten := by
  rw [List.mem_flatten]
  constructor
  · rintro ⟨l, u, h, hx⟩
    obtain ⟨p, hp, rfl, rfl⟩ := (gf_iff ok).mp h
    exact ⟨_, List.mem_map.mpr ⟨p, hp, rfl⟩, hx⟩
  · rintro ⟨l, hl, hx⟩
    obtain ⟨p, hp, rfl⟩ := List.mem_map.mp hl
    exact ⟨_, _, (gf_iff ok).mpr ⟨p, hp, rfl, rfl⟩, hx⟩
/-- what a placing's cells weigh together -/
theorem wP_fold {n b : Nat} {g : Gd} (sq : Sq n b g) {q : Nat → Nat} (h : IsP n (Ed n g) q) : ∀ m, m ≤ n → ((List.range m).map fun i => (ce g i (q i)).getD []).foldl ua (u0 b) = vec b fun k => sm m fun i => ex g k i (q i)
  | 0, _ => by rw [u0_vec]; exact vec_congr fun k _ => rfl
  | m + 1, hm => by
    obtain ⟨_, _, u, hu⟩ := h.at_ m (by omega)
    rw [List.range_succ, List.map_append, List.foldl_append, wP_fold sq h m (by omega)]
    show ua _ ((ce g m (q m)).getD []) = _
    rw [hu]
    show ua _ u = _
    rw [ex_vec sq hu, ua_vec]
    rfl
end UG
end
section
/-! Unitgrids, the law's drawn grids, all placings, what one weighs. -/
namespace UG
open PySem PySem.Spec PyProof.Rows L2 RZ UM UL
/-- a number and rows -/
def parts (b : Nat) (g : Gd) : PyData := .tuple [.int (b : Nat), rws g]
section
variable {P : Program} {w : World} {K : PySem.W.Frag} {mg : Str → Option Value} {base : Heap}
def sp_L_drawn (K : PySem.W.Frag) : Sp := fun vs H Q _ => ∃ x y, vs = [x, y] ∧ ∃ (h l : Addr) (ns : List Int) (n m : Nat), x = .ref h ∧ Hand H h l ns n ∧ n < 40000 ∧ y = .int (m : Nat) ∧ 1 ≤ m ∧ m ≤ 4 ∧
  ∀ H' v b g, Bu h H H' → Hand H' h l ns (n + 140) → OkG b g → g.length ≤ 4 → Is K H' v (parts b g) → Q v H'
abbrev n_L_drawn : List Str := ["_law_hand_here", "_law_most", "_law_bases"]
theorem sc_L_drawn : FnScope n_L_drawn ["_law_hand_here", "_law_most"] (defScope s_L_drawn) := ⟨rfl, rfl, rfl, by decide +kernel, rfl, by decide +kernel, by decide +kernel⟩
theorem ok_L_drawn (T : Txt K mg) : Ok P w K mg base "_law_drawn" ["_law_hand_here", "_law_most"] 6 (sp_L_drawn K) := by
  refine T.x_L_drawn.ok sc_L_drawn (fun _ _ _ _ _ _ us hl => match us, hl with | [_, _], _ => rfl) (fun vs H Q E h => by obtain ⟨_, _, rfl, _⟩ := h; rfl) (fun f cdv A outer s H vs Q E hr h => ?_)
  obtain ⟨_, _, rfl, h, l, ns, n, m, rfl, hh, hn, rfl, hm1, hm2, q⟩ := h
  refine ⟨_, (pss_cons (ps_set (i := 2) sc_L_drawn.nd rfl (.inl rfl) (pe_op op_add pe_int (pc (ok_L_draw T) hr rfl (pa_cons (pv 0) (pa_cons pe_int pa_nil)))))
    (pss_one (ps_ret (pe_tup (pa_cons (pv 2) (pa_cons (pc (ok_L_rows T) hr rfl (pa_cons (pv 0) (pa_cons (pe_op op_add pe_int (pc (ok_L_draw T) hr rfl (pa_cons (pv 0) (pa_cons (pv 1) pa_nil)))) (pa_cons (pv 2) pa_nil)))) pa_nil)))))), ?_⟩
  dsimp only [tVar, tC, tAdd, tSub, tMul, t2I, tCmp, tIsN, tNotN, tB, tAnd, tOr, tNot, tAndV, tOrV, tNotV, tIf, tSeq, tNext, tDrop, tRet, tRetN, tIfS, tAsg, tAug, tPar, gName, gNil, gCons, gSub, tOp, tUn, tTest, tChain, tCons, tNil, tTup, tLst, tCall, tCB, tMake, tFld, sFld, tNoPart, tPart, tSl, tBM, tBM0, rI0, rI, tYes, Cx.nox, Cx.blk, cxOf, List.nil_append, List.cons_append]
  refine ⟨_, rfl, _, _, rfl, h, l, ns, _, 2, rfl, hh, by omega, rfl, by omega, by omega, fun H1 d b1 h1 hd => ⟨_, _, rfl, rfl, ?_⟩⟩
  refine ⟨_, rfl, _, rfl, _, rfl, _, rfl, _, _, rfl, h, l, ns, _, m, rfl, h1, by omega, rfl, by omega, by omega, fun H2 d2 b2 h2 hd2 => ⟨_, _, rfl, rfl, _, rfl, ?_⟩⟩
  refine ⟨_, _, _, rfl, h, l, ns, _, 1 + d2, 1 + d, rfl, h2, by omega, by simp, by omega, by omega, by simp, by omega, by omega, fun H3 v g b3 h3 ok hl hv => ⟨two_le2 _ _, fun p np => ?_⟩⟩
  refine q _ _ (1 + d) g (((b1.bu.trans b2.bu).trans b3).new np) ((h3.same (same_upd np)).up (by omega)) ok (by omega) ?_
  have := Is.mk (K := K) (xs := [.int ((1 + d : Nat) : Int), v]) np (.cons (.int _) (.cons hv .nil))
  rw [Int.natCast_add] at this
  exact this
def sp_L_made (K : PySem.W.Frag) : Sp := fun vs H Q _ => ∃ x, vs = [x] ∧ ∃ (b : Nat) (g : Gd), Is K H x (parts b g) ∧ OkG b g ∧ ∀ H' v, Same H H' → IsG K H' v b g → Q v H'
abbrev n_L_made : List Str := ["_law_parts"]
theorem sc_L_made : FnScope n_L_made ["_law_parts"] (defScope s_L_made) := ⟨rfl, rfl, rfl, by decide +kernel, rfl, by decide +kernel, by decide +kernel⟩
theorem ok_L_made (T : Txt K mg) : Ok P w K mg base "_law_made" ["_law_parts"] 8 (sp_L_made K) := by
  refine T.x_L_made.ok sc_L_made (fun _ _ _ _ _ _ us hl => match us, hl with | [_], _ => rfl) (fun vs H Q E h => by obtain ⟨_, rfl, _⟩ := h; rfl) (fun f cdv A outer s H vs Q E hr h => ?_)
  obtain ⟨_, rfl, b, g, hx, ok, q⟩ := h
  refine ⟨_, (pss_one (ps_ret (pmk (ok_Grid_init T) T hr rfl (pa_cons (pe_ix ix_tup (pv 0) pe_int (fun _ _ => rfl)) (pa_cons (pe_ix ix_tup (pv 0) pe_int (fun _ _ => rfl)) pa_nil))))), ?_⟩
  dsimp only [tVar, tC, tAdd, tSub, tMul, t2I, tCmp, tIsN, tNotN, tB, tAnd, tOr, tNot, tAndV, tOrV, tNotV, tIf, tSeq, tNext, tDrop, tRet, tRetN, tIfS, tAsg, tAug, tPar, gName, gNil, gCons, gSub, tOp, tUn, tTest, tChain, tCons, tNil, tTup, tLst, tCall, tCB, tMake, tFld, sFld, tNoPart, tPart, tSl, tBM, tBM0, rI0, rI, tYes, Cx.nox, Cx.blk, cxOf, List.nil_append, List.cons_append]
  refine ⟨_, rfl, r_ixTn (j := 0) hx rfl rfl fun v1 hv1 => ?_⟩
  refine ⟨_, rfl, r_ixTn (j := 1) hx rfl rfl fun v2 hv2 => ?_⟩
  rw [hv1.int_eq]
  exact r_grid hv2 ok q
def sp_L_placings (K : PySem.W.Frag) : Sp := fun vs H Q _ => ∃ x, vs = [x] ∧ ∃ (b : Nat) (g : Gd), Is K H x (rws g) ∧ OkG b g ∧ g.length ≤ 4 ∧ ∀ H' l, Same H H' → IsL K H' l ((plc g).map tn) → Q (.ref l) H'
abbrev n_L_placings : List Str := ["_law_rows_here", "_law_found", "_law_row", "_law_longer", "_law_placing", "_law_free", "_law_j"]
theorem sc_L_placings : FnScope n_L_placings ["_law_rows_here"] (defScope s_L_placings) := ⟨rfl, rfl, rfl, by decide +kernel, rfl, by decide +kernel, by decide +kernel⟩
theorem ok_L_placings (T : Txt K mg) : Ok P w K mg base "_law_placings" ["_law_rows_here"] 1 (sp_L_placings K) := by
  refine T.x_L_placings.ok sc_L_placings (fun _ _ _ _ _ _ us hl => match us, hl with | [_], _ => rfl) (fun vs H Q E h => by obtain ⟨_, rfl, _⟩ := h; rfl) (fun f cdv A outer s H vs Q E hr h => ?_)
  obtain ⟨x, rfl, b, g, hx, ok, hn, q⟩ := h
  obtain ⟨a, xs, rfl, ht, ha⟩ := hx.tup_ex
  have hxl : xs.length = g.length := by rw [ha.length, List.length_map]
  refine ⟨_, (pss_cons (ps_set (i := 1) sc_L_placings.nd rfl (.inl rfl) (pe_lst (pa_cons (pe_tup pa_nil) pa_nil)))
    (pss_cons (ps_for PassesOwn.never rfl (pi_tup (pv 0)) (pg_name (i := 2) sc_L_placings.nd rfl (.inr rfl))
      (pss_cons (ps_set (i := 3) sc_L_placings.nd rfl (.inl rfl) (pe_lst pa_nil))
      (pss_cons (ps_for PassesOwn.never rfl (pi_list (pv 1)) (pg_name (i := 4) sc_L_placings.nd rfl (.inr rfl))
        (pss_cons (ps_setLc (i := 5) (own := [("_law_j", 6)]) rfl sc_L_placings.nd rfl rfl (sw_true rfl rfl rfl (by decide +kernel)) (pi_range1 rfl T.b_range (pa_cons (pe_callB call_lenO (by rfl) T.b_len bt_len (pa_cons (pv 2) pa_nil)) pa_nil)) (blkOk_by (N := n_L_placings) (sc := (defScope s_L_placings)) (by decide +kernel)) (fun _ _ _ _ _ => (pg_name (i := 6) sc_L_placings.nd rfl (.inl rfl))) (fun _ _ _ _ _ => (pts_one (pt_cmp (pc_notN (pe_ix (ix_tupK K (by rfl)) (pv 2) (pv 6) (fun _ _ => rfl)))))) (fun _ _ _ _ _ => (pv 6)))
        (pss_one (ps_expr (pe_bm PySem.F.plainAttrs_list PySem.F.slot_list_extend PySem.F.type_list_extend mt_extend (pv 3) (pa_cons (pe_lc (own := [("_law_j", 6)]) rfl sc_L_placings.nd (pi_list (pv 5)) (blkOk_by (N := n_L_placings) (sc := (defScope s_L_placings)) (by decide +kernel)) (fun _ _ _ _ _ => (pg_name (i := 6) sc_L_placings.nd rfl (.inl rfl))) (fun _ _ _ _ _ => (pts_one (pt_cmpR (op_notIn_seqK K (by rfl)) (pv 6) (pv 4) (by with_unfolding_all rfl)))) (fun _ _ _ _ _ => (pe_op (op_catAK K (by rfl)) (pv 4) (pe_tup (pa_cons (pv 6) pa_nil))))) pa_nil))))))
      (pss_one (ps_set (i := 1) sc_L_placings.nd rfl (.inl rfl) (pv 3))))))
    (pss_one (ps_ret (pv 1))))), ?_⟩
  dsimp only [tVar, tC, tAdd, tSub, tMul, t2I, tCmp, tIsN, tNotN, tB, tAnd, tOr, tNot, tAndV, tOrV, tNotV, tIf, tSeq, tNext, tDrop, tRet, tRetN, tIfS, tAsg, tAug, tPar, gName, gNil, gCons, gSub, tOp, tUn, tTest, tChain, tCons, tNil, tTup, tLst, tCall, tCB, tMake, tFld, sFld, tNoPart, tPart, tSl, tBM, tBM0, rI0, rI, tYes, Cx.nox, Cx.blk, cxOf, List.nil_append, List.cons_append]
  refine ⟨Nat.zero_le _, fun e0 ne0 => ⟨(show 1 ≤ sizeLine by decide), fun L0 nL0 => ?_⟩⟩
  have s0 : Same H (upd (upd H e0 (.tup [])) L0 (.lst [.ref e0])) := (same_upd ne0).trans (same_upd nL0)
  have hL0 : IsL K (upd (upd H e0 (.tup [])) L0 (.lst [.ref e0])) L0 (([[]] : List (List Nat)).map tn) := IsL.mk nL0 (.one (Is.mk ne0 .nil))
  refine forF (B := H) (feedT ht) (fun R r => ⟨_, rfl, a, rfl, ⟨_, SqT.same s0 ht⟩, r⟩)
    (fun i σ H' => (∃ L y2 y3 y4 y5 y6, σ = [some (.ref a), some (.ref L), y2, y3, y4, y5, y6] ∧ IsL K H' L ((plc (g.take i)).map tn)) ∧ Same H H')
    ⟨⟨L0, _, _, _, _, _, rfl, hL0⟩, s0⟩ (fun _ _ _ h => h.2) (fun i x σ H1 H2 hi hP s it => ?_) (fun σ H1 hP => ?_)
  · obtain ⟨⟨L, y2, y3, y4, y5, y6, rfl, hL⟩, s1⟩ := hP
    have s2 := s1.trans s
    obtain ⟨r, hr, hv⟩ := ha.getM' it
    have hrl : r.length = g.length := ok.sq r (List.mem_of_getElem? hr)
    have hvr : Is K H2 x (row r) := hv.same s2
    have hil : i < g.length := by omega
    have htl : (g.take i).length ≤ 3 := by rw [List.length_take]; omega
    have hpl : ∀ p ∈ plc (g.take i), p.length ≤ 3 := fun p hp => by rw [((mem_plc _ _).mp hp).1]; exact htl
    have hpn : (plc (g.take i)).length ≤ 64 := by
      refine Nat.le_trans (plc_len (m := 4) _ fun r' hr' => ?_) (Nat.le_trans (Nat.pow_le_pow_right (by decide) htl) (by decide))
      rw [ok.sq r' (List.mem_of_mem_take hr')]
      exact hn
    obtain ⟨zs, hz, hza⟩ := hL.same s
    have hzl : zs.length = (plc (g.take i)).length := by rw [hza.length, List.length_map]
    dsimp only [tVar, tC, tAdd, tSub, tMul, t2I, tCmp, tIsN, tNotN, tB, tAnd, tOr, tNot, tAndV, tOrV, tNotV, tIf, tSeq, tNext, tDrop, tRet, tRetN, tIfS, tAsg, tAug, tPar, gName, gNil, gCons, gSub, tOp, tUn, tTest, tChain, tCons, tNil, tTup, tLst, tCall, tCB, tMake, tFld, sFld, tNoPart, tPart, tSl, tBM, tBM0, rI0, rI, tYes, Cx.nox, Cx.blk, cxOf, List.nil_append, List.cons_append]
    refine ⟨Nat.zero_le _, fun lo nlo => ?_⟩
    refine forF (B := H2) (feedL (SqL.of hz)) (fun R r' => ⟨_, rfl, L, rfl, ⟨_, SqL.of (same_upd nlo _ _ hz)⟩, r'⟩)
      (fun k σ H' => (∃ y4 y5 y6, σ = [some (.ref a), some (.ref L), some x, some (.ref lo), y4, y5, y6]) ∧ Same H2 H' ∧ IsL K H' lo ((((plc (g.take i)).take k).flatMap (plS r)).map tn))
      ⟨⟨_, _, _, rfl⟩, same_upd nlo, IsL.mk nlo .nil⟩ (fun _ _ _ h => h.2.1) (fun k y σ H3 H4 hk hP s3 it2 => ?_) (fun σ H3 hP => ?_)
    · obtain ⟨⟨y4, y5, y6, rfl⟩, s4, hlo⟩ := hP
      have s24 := s4.trans s3
      obtain ⟨p, hp, hpv⟩ := hza.getM' it2
      have hpv4 := hpv.same s24
      have hp3 := hpl p (List.mem_of_getElem? hp)
      dsimp only [tVar, tC, tAdd, tSub, tMul, t2I, tCmp, tIsN, tNotN, tB, tAnd, tOr, tNot, tAndV, tOrV, tNotV, tIf, tSeq, tNext, tDrop, tRet, tRetN, tIfS, tAsg, tAug, tPar, gName, gNil, gCons, gSub, tOp, tUn, tTest, tChain, tCons, tNil, tTup, tLst, tCall, tCB, tMake, tFld, sFld, tNoPart, tPart, tSl, tBM, tBM0, rI0, rI, tYes, Cx.nox, Cx.blk, cxOf, List.nil_append, List.cons_append]
      have hr4 : Is K H4 x (row r) := hvr.same s24
      have hlen : LenO K H4 x r.length := by
        have := hr4.len
        rwa [List.length_map] at this
      refine lcF (B := H4) (feedR 0 r.length) (fun R r' => ⟨_, rfl, _, _, rfl, hlen, _, rfl, by omega, by omega, r'⟩)
        (fun L i acc H' => Same H4 H' ∧ acc = (((List.range i).filter fun j => (r.getD j none).isSome).map vn)) (fun L hL => ⟨same_upd hL, rfl⟩) (fun _ _ _ _ h => h.1) (fun L5 j x' acc H5 H6 hL5 hj hp5 hl5 hle5 s5 it5 => ?_) (fun L5 acc H5 hL5 hp5 hl5 hle5 => ?_)
      · obtain ⟨s6, rfl⟩ := hp5
        subst it5
        have s46 := s6.trans s5
        dsimp only [tVar, tC, tAdd, tSub, tMul, t2I, tCmp, tIsN, tNotN, tB, tAnd, tOr, tNot, tAndV, tOrV, tNotV, tIf, tSeq, tNext, tDrop, tRet, tRetN, tIfS, tAsg, tAug, tPar, gName, gNil, gCons, gSub, tOp, tUn, tTest, tChain, tCons, tNil, tTup, tLst, tCall, tCB, tMake, tFld, sFld, tNoPart, tPart, tSl, tBM, tBM0, rI0, rI, tYes, Cx.nox, Cx.blk, cxOf, List.nil_append, List.cons_append]
        rw [Int.zero_add]
        refine ⟨rfl, _, rfl, _, rfl, r_ixTn (ds := r.map cel) (d := cel (r.getD j none)) (hr4.same s46) rfl (by rw [List.getElem?_map, List.getD_eq_getElem?_getD, List.getElem?_eq_getElem (by omega)]; rfl) fun v hv => ?_⟩
        have hj1 : ((List.range j).filter fun j => (r.getD j none).isSome).length ≤ j := Nat.le_trans (List.length_filter_le _ _) (by rw [List.length_range]; exact Nat.le_refl _)
        cases hc : r.getD j none with
        | none =>
          rw [hc] at hv
          refine ⟨_, rfl, ifF (by rw [hv.non_eq]; rfl) (LcNx.mk (s5 _ _ hl5) hle5 ⟨s46, ?_⟩)⟩
          have e1 : ([j].filter fun j => (r.getD j none).isSome) = [] := by rw [List.filter_cons, hc]; rfl
          rw [List.range_succ, List.filter_append, e1, List.append_nil]
        | some u =>
          rw [hc] at hv
          have hv : Is K H6 v (un u) := hv
          refine ⟨_, rfl, ifT (by rw [decide_eq_false hv.notNon]; rfl) ⟨_, rfl, ?_⟩⟩
          refine LcGot.mk (s5 _ _ hl5) hle5 (lt_line (by omega)) ⟨s46.out hL5, ?_⟩
          have e1 : ([j].filter fun j => (r.getD j none).isSome) = [j] := by rw [List.filter_cons, hc]; rfl
          rw [List.range_succ, List.filter_append, e1, List.map_append]
          rfl
      obtain ⟨s5, rfl⟩ := hp5
      have hfr : H5 L5 = some (.lst ((free r).map vn)) := hl5
      have hp5 := hpv4.same s5
      obtain ⟨c, ys, rfl, hct, hca⟩ := hp5.tup_ex
      have hyi := hca.nats_eq
      have hs25 := s24.trans s5
      have hlo5 := (hlo.same s3).same s5
      refine ⟨_, rfl, hlo5.ty, ?_⟩
      refine lcF (B := H5) (feedL (SqL.of hfr)) (fun R r' => ⟨_, rfl, L5, rfl, ⟨_, SqL.of hfr⟩, r'⟩)
        (fun L i acc H' => Same H5 H' ∧ IsA K H' acc (((((free r).take i).filter fun j => decide (j ∉ p)).map fun j => p ++ [j]).map tn)) (fun L hL => ⟨same_upd hL, .nil⟩) (fun _ _ _ _ h => h.1) (fun L6 j x' acc H6 H7 hL6 hj hp6 hl6 hle6 s6 it6 => ?_) (fun L6 acc H6 hL6 hp6 hl6 hle6 => ?_)
      · obtain ⟨s7, ha7⟩ := hp6
        have s57 := s7.trans s6
        rw [List.getElem?_map] at it6
        cases hf : (free r)[j]? with
        | none => rw [hf] at it6; cases it6
        | some c0 =>
          rw [hf] at it6
          cases it6
          have hfl : (free r).length ≤ 4 := Nat.le_trans (List.length_filter_le _ _) (by rw [List.length_range]; omega)
          rw [List.length_map] at hj
          dsimp only [tVar, tC, tAdd, tSub, tMul, t2I, tCmp, tIsN, tNotN, tB, tAnd, tOr, tNot, tAndV, tOrV, tNotV, tIf, tSeq, tNext, tDrop, tRet, tRetN, tIfS, tAsg, tAug, tPar, gName, gNil, gCons, gSub, tOp, tUn, tTest, tChain, tCons, tNil, tTup, tLst, tCall, tCB, tMake, tFld, sFld, tNoPart, tPart, tSl, tBM, tBM0, rI0, rI, tYes, Cx.nox, Cx.blk, cxOf, List.nil_append, List.cons_append]
          refine ⟨rfl, _, rfl, _, rfl, c, ys, rfl, .inr (SqT.same s57 hct), rfl, ?_, ?_⟩
          · rw [hyi]
            exact List.all_eq_true.mpr fun v hv => by obtain ⟨j, _, rfl⟩ := List.mem_map.mp hv; rfl
          · rw [hyi, show vn c0 = .int ((c0 : Nat) : Int) from rfl, inV_nats]
            by_cases hm : c0 ∈ p
            · refine ⟨_, rfl, ifF (by simp [hm]) (LcNx.mk (s6 _ _ hl6) hle6 ⟨s57, ?_⟩)⟩
              rw [take_succ hf, List.filter_append]
              simpa [hm] using ha7.same s6
            · refine ⟨_, rfl, ifT (by simp [hm]) ⟨_, rfl, _, rfl, (show 1 ≤ sizeLine by decide), fun p1 np1 => ?_⟩⟩
              refine r_cat (ds := p.map nat) (es := [nat c0]) ((hp5.same s57).same (same_upd np1)) (Is.mk np1 (.one (.int _))) (le_line (by simp; omega)) fun H8 v8 s8 hv8 => ?_
              have s68 := s6.trans ((same_upd np1).trans s8)
              refine LcGot.mk (s68 _ _ hl6) hle6 (lt_line (by omega)) ⟨(s7.trans s68).out hL6, ?_⟩
              rw [take_succ hf, List.filter_append, List.map_append, List.map_append]
              refine ((ha7.same s68).tk (Tk.lst (s68 _ _ hl6))).append ?_
              have e : ([c0].filter fun j => decide (j ∉ p)) = [c0] := by simp [hm]
              rw [e]
              refine .one (Is.tk (Tk.lst (s68 _ _ hl6)) ?_)
              unfold tn
              rw [List.map_append]
              exact hv8
      · obtain ⟨s6, ha6⟩ := hp6
        rw [List.length_map, List.take_length] at ha6
        obtain ⟨xl, exl, hxa⟩ := hlo5.same s6
        have hk' : k < (plc (g.take i)).length := by omega
        have h1 : xl.length ≤ 64 * 4 := by
          rw [hxa.length, List.length_map]
          refine Nat.le_trans (flat_len (plS r) (m := 4) (fun p => Nat.le_trans (plS_len r p) (by omega)) _) (Nat.mul_le_mul_right _ ?_)
          rw [List.length_take]
          omega
        have h2 : acc.length ≤ 4 := by
          rw [ha6.length, List.length_map]
          exact Nat.le_trans (plS_len r p) (by omega)
        have nl : H2 lo = none := nlo
        refine ⟨lo, L6, xl, acc, rfl, rfl, exl, hl6, le_line (by omega), ⟨_, _, _, rfl⟩, (hs25.trans s6).out nl, ?_⟩
        rw [take_succ hp, List.flatMap_append, List.map_append]
        refine IsL.put exl (hxa.append ?_)
        rw [List.flatMap_cons, List.flatMap_nil, List.append_nil]
        exact ha6
    · obtain ⟨⟨y4, y5, y6, rfl⟩, s4, hlo⟩ := hP
      dsimp only [tVar, tC, tAdd, tSub, tMul, t2I, tCmp, tIsN, tNotN, tB, tAnd, tOr, tNot, tAndV, tOrV, tNotV, tIf, tSeq, tNext, tDrop, tRet, tRetN, tIfS, tAsg, tAug, tPar, gName, gNil, gCons, gSub, tOp, tUn, tTest, tChain, tCons, tNil, tTup, tLst, tCall, tCB, tMake, tFld, sFld, tNoPart, tPart, tSl, tBM, tBM0, rI0, rI, tYes, Cx.nox, Cx.blk, cxOf, List.nil_append, List.cons_append]
      rw [hzl, List.take_length] at hlo
      refine ⟨_, rfl, ⟨lo, _, _, _, _, _, rfl, ?_⟩, s2.trans s4⟩
      rw [take_succ hr, plc_snoc]
      exact hlo
  · obtain ⟨⟨L, y2, y3, y4, y5, y6, rfl, hL⟩, s1⟩ := hP
    dsimp only [tVar, tC, tAdd, tSub, tMul, t2I, tCmp, tIsN, tNotN, tB, tAnd, tOr, tNot, tAndV, tOrV, tNotV, tIf, tSeq, tNext, tDrop, tRet, tRetN, tIfS, tAsg, tAug, tPar, gName, gNil, gCons, gSub, tOp, tUn, tTest, tChain, tCons, tNil, tTup, tLst, tCall, tCB, tMake, tFld, sFld, tNoPart, tPart, tSl, tBM, tBM0, rI0, rI, tYes, Cx.nox, Cx.blk, cxOf, List.nil_append, List.cons_append]
    rw [hxl, List.take_length] at hL
    exact ⟨_, rfl, q _ _ s1 hL⟩
def sp_L_placed (K : PySem.W.Frag) : Sp := fun vs H Q _ => ∃ x y, vs = [x, y] ∧ ∃ (b : Nat) (g : Gd) (p : List Nat), Is K H x (parts b g) ∧ OkG b g ∧ Is K H y (tn p) ∧ Pl g.length g p ∧ ∀ H' v, Same H H' → Is K H' v (un (wP g.length b g (pf p))) → Q v H'
abbrev n_L_placed : List Str := ["_law_parts", "_law_placing", "_law_i", "_law_j"]
theorem sc_L_placed : FnScope n_L_placed ["_law_parts", "_law_placing"] (defScope s_L_placed) := ⟨rfl, rfl, rfl, by decide +kernel, rfl, by decide +kernel, by decide +kernel⟩
theorem ok_L_placed (T : Txt K mg) : Ok P w K mg base "_law_placed" ["_law_parts", "_law_placing"] 6 (sp_L_placed K) := by
  refine T.x_L_placed.ok sc_L_placed (fun _ _ _ _ _ _ us hl => match us, hl with | [_, _], _ => rfl) (fun vs H Q E h => by obtain ⟨_, _, rfl, _⟩ := h; rfl) (fun f cdv A outer s H vs Q E hr h => ?_)
  obtain ⟨x, y, rfl, b, g, p, hx, ok, hy, pl, q⟩ := h
  obtain ⟨c, ys, rfl, ht, ha⟩ := hy.tup_ex
  have hyl : ys.length = g.length := by rw [ha.length, List.length_map, pl.len]
  refine ⟨_, (pss_one (ps_ret (pc (ok_L_total T) hr rfl (pa_cons (pe_ix ix_tup (pv 0) pe_int (fun _ _ => rfl)) (pa_cons (pe_lc (own := [("_law_i", 2), ("_law_j", 3)]) rfl sc_L_placed.nd (pi_enumT rfl T.b_enumerate (pa_cons (pv 1) pa_nil)) (blkOk_by (N := n_L_placed) (sc := (defScope s_L_placed)) (by decide +kernel)) (fun _ _ _ _ _ => (by refine pg2 (i := 2) (j := 3) K rfl sc_L_placed.nd ?_ ?_ ?_ ?_ ?_ ?_ ?_ <;> first | rfl | exact .inl rfl | exact .inr rfl)) (fun _ _ _ _ _ => pts_nil) (fun _ _ _ _ _ => (pe_ix (ix_tupK K (by rfl)) (pe_ix (ix_tupK K (by rfl)) (pe_ix (ix_tupK K (by rfl)) (pv 0) pe_int (fun _ _ => rfl)) (pv 2) (fun _ _ => rfl)) (pv 3) (fun _ _ => rfl)))) pa_nil))))), ?_⟩
  dsimp only [tVar, tC, tAdd, tSub, tMul, t2I, tCmp, tIsN, tNotN, tB, tAnd, tOr, tNot, tAndV, tOrV, tNotV, tIf, tSeq, tNext, tDrop, tRet, tRetN, tIfS, tAsg, tAug, tPar, gName, gNil, gCons, gSub, tOp, tUn, tTest, tChain, tCons, tNil, tTup, tLst, tCall, tCB, tMake, tFld, sFld, tNoPart, tPart, tSl, tBM, tBM0, rI0, rI, tYes, Cx.nox, Cx.blk, cxOf, List.nil_append, List.cons_append]
  have sq := ok.sqr
  refine ⟨_, rfl, r_ixTn (j := 0) hx rfl rfl fun v1 hv1 => ?_⟩
  refine lcM (K := K) (f := fun i => un ((ce g i (pf p i)).getD [])) (feedET ht) (fun R r => ⟨_, rfl, c, ys, rfl, ht, r⟩) (fun L i x' acc H2 H3 hL hi hp hl hle s it => ?_) (fun L H2 hL s hi => ?_)
  · obtain ⟨T', v, rfl, e1, e2⟩ := it
    obtain ⟨j, hj, rfl⟩ := nat_get ha e1
    have hig : i < g.length := by omega
    have epf : pf p i = j := getD_nat hj
    obtain ⟨_, hjn, u, hu⟩ := pl.is.at_ i hig
    rw [show p.getD i 0 = j from getD_nat hj] at hjn hu
    obtain ⟨r, r1, r2, r3⟩ := sq.cel hig hjn
    refine gPair e2 ?_
    dsimp only [tVar, tC, tAdd, tSub, tMul, t2I, tCmp, tIsN, tNotN, tB, tAnd, tOr, tNot, tAndV, tOrV, tNotV, tIf, tSeq, tNext, tDrop, tRet, tRetN, tIfS, tAsg, tAug, tPar, gName, gNil, gCons, gSub, tOp, tUn, tTest, tChain, tCons, tNil, tTup, tLst, tCall, tCB, tMake, tFld, sFld, tNoPart, tPart, tSl, tBM, tBM0, rI0, rI, tYes, Cx.nox, Cx.blk, cxOf, List.nil_append, List.cons_append]
    have hx3 := hx.same (hp.1.trans s)
    refine ⟨rfl, ifT rfl ⟨_, rfl, r_ixTn (j := 1) hx3 rfl rfl fun v2 hv2 => ?_⟩⟩
    refine ⟨_, rfl, r_ixTn (ds := g.map row) hv2 rfl (by rw [List.getElem?_map, r1]; rfl) fun v3 hv3 => ?_⟩
    refine ⟨_, rfl, r_ixTn (ds := r.map cel) hv3 rfl (by rw [List.getElem?_map, r3]; rfl) fun v4 hv4 => ?_⟩
    refine hp.got hL hl s hle (lt_line (by have := ok.n2; omega)) ?_
    rw [epf, hu]
    rw [hu] at hv4
    exact hv4
  · rw [hyl] at hi
    have e : (List.range g.length).map (fun i => un ((ce g i (pf p i)).getD [])) = ((List.range g.length).map fun i => (ce g i (pf p i)).getD []).map un := by rw [List.map_map]; rfl
    rw [e] at hi
    have hb := ok.b2
    refine ⟨_, _, rfl, b, L, _, hv1.int_eq, ok.b1, hb, rfl, hi, fun u hu => ?_, fun H3 z s3 hz => q H3 z (s.trans s3) ?_⟩
    · obtain ⟨i, hi', rfl⟩ := List.mem_map.mp hu
      obtain ⟨_, _, u, hu'⟩ := pl.is.at_ i (List.mem_range.mp hi')
      rw [show ce g i (pf p i) = some u from hu']
      exact sq.ok _ _ _ hu'
    · rw [wP_fold sq (q := pf p) pl.is g.length (Nat.le_refl _)] at hz
      exact hz
end
end UG
end
section
/-! Unitgrids, a rule that the layer lacks: sum(xs, []), xs a list of lists. -/
namespace UG
open PySem PySem.Spec PyProof.Rows PySem.W L2
section
variable {P : Program} {w : World} {A : Around} {E : Value → Shared → Prop} {s : Shared}
theorem add_two {l b : Addr} {vs us : Array Value} {Q : Value → Shared → Prop} (hl : s.heap.IsList l vs) (hb : s.heap.IsList b us) (hsz : vs.size + us.size ≤ sizeLine)
    (h : Q (.ref s.heap.objs.size) { s with heap := s.heap.push { cls := .type "list", data := .seq (vs ++ us) } }) : wpAny (model P w) A (binaryOp .Add (.ref l) (.ref b)) Q E s := by
  obtain ⟨⟨c1, d1, dt1, s1⟩, ho, hc, n, hd⟩ := id hl
  obtain ⟨⟨c2, d2, dt2, s2⟩, ho2, hc2, n2, hd2⟩ := id hb
  simp only at hc hd hc2 hd2
  subst hc hd hc2 hd2
  exact concat_meets ⟨_, ho, rfl⟩ ⟨_, ho2, rfl⟩ noFill_list_add seq_list_add PySem.F.slot_list_add PySem.F.entry_list_add (PySem.F.args_list_add_2 _ _) (list_addW l b vs us n n2 d1 d2 s1 s2 hsz) ⟨ho, ho2, h⟩
/-- the lists at these values -/
def Lists (h : Heap) (items : Array Value) (ls : List (List Value)) : Prop := items.size = ls.length ∧ ∀ (i : Nat) (l : List Value), ls[i]? = some l → ∃ b, items[i]? = some (.ref b) ∧ h.IsList b l.toArray
theorem Lists.keep {h h' : Heap} {items : Array Value} {ls : List (List Value)} (x : Lists h items ls) (k : Kp h h') : Lists h' items ls :=
  ⟨x.1, fun i l e => let ⟨b, e1, e2⟩ := x.2 i l e; ⟨b, e1, e2.at fun o z => k b o z⟩⟩
theorem join_len : ∀ (ls : List (List Value)) (i : Nat), (ls.take i).flatten.length ≤ ls.flatten.length
  | [], i => by simp
  | l :: ls, 0 => by simp
  | l :: ls, i + 1 => by
    have := join_len ls i
    simp only [List.take_succ_cons, List.flatten_cons, List.length_append]
    omega
theorem add_loop {S I l st : Addr} {items : Array Value} {ls : List (List Value)} (h0 : Heap) (hS : h0.objs.size ≤ S) (hI : h0.objs.size ≤ I) (hSI : S ≠ I) (hl0 : h0.IsList l items) (L0 : Lists h0 items ls) (hsz : ls.flatten.length ≤ sizeLine) (hh : A.handled = none) {R : Result → Shared → Prop} :
    ∀ (k i : Nat) (s : Shared) (T : Addr) (c : Nat), ls.length - i = k → i ≤ ls.length → s.heap.IsListIter I l i → Kp h0 s.heap → s.heap.get? S = some { cls := .type "list", dict := none, data := .seq #[.ref T] c, slots := #[] } → T ≠ S → T ≠ I → ((h0.objs.size ≤ T ∧ s.heap.get? T = some { cls := .type "list", data := .seq ((ls.take i).flatten).toArray }) ∨ T = st ∧ i = 0) → s.heap.IsList T ((ls.take i).flatten).toArray →
      (∀ s' T', s'.gens = s.gens → s'.os = s.os → s'.drawn = s.drawn → Kp h0 s'.heap → ((h0.objs.size ≤ T' ∧ s'.heap.get? T' = some { cls := .type "list", data := .seq ls.flatten.toArray }) ∨ T' = st ∧ ls = []) → R (.ok (.ret (.ref T'))) s') →
      codeAny (model P w) A (.builtin "sum.loop" ⟨[.ref I, .ref S, rawInt 2, rawInt 0], []⟩) R s := by
  have hh1 : A.in1.handled = none := hh
  have out : ∀ {b : Addr}, h0.objs.size ≤ b → ∀ c o, h0.get? c = some o → c ≠ b := fun {b} hb c o z e => Nat.lt_irrefl _ (Nat.lt_of_lt_of_le (Heap.lt_size z) (e ▸ hb))
  intro k
  induction k with
  | zero =>
    intro i s T c hk hi hit kp hs n1 n2 hT hTl hR
    have hin : i = ls.length := by omega
    refine codeAny_builtin F.entry_sum_loop ?_
    rw [Around.under_plainId F.plain_sum_loop _]
    show wpAny _ A.in1 (seqItems? (.ref S) >>= _) _ _ s
    refine wpAny_bind (wpAny_seqItems hs rfl ?_)
    show wpAny _ A.in1 (tryCatch (pyNext (.ref I)) _ >>= _) _ _ s
    refine wpAny_bind (wpAny_tryCatch (wpAny_pyNext_list_end hh1 hit (hl0.at fun o z => kp l o z) (by rw [Array.getElem?_eq_none (by rw [L0.1]; omega)]) fun h' hx => ?_))
    refine wpAny_pure (hR _ T rfl rfl rfl (fun b o z => hx b o (out hI b o z) (kp b o z)) ?_)
    rcases hT with ⟨z1, z2⟩ | ⟨z1, z2⟩
    · rw [hin, List.take_length] at z2
      exact .inl ⟨z1, hx T _ n2 z2⟩
    · exact .inr ⟨z1, List.eq_nil_of_length_eq_zero (by omega)⟩
  | succ k ih =>
    intro i s T c hk hi hit kp hs n1 n2 hT hTl hR
    have hlt : i < ls.length := by omega
    obtain ⟨b, hb1, hb2⟩ := L0.2 i ls[i] (List.getElem?_eq_getElem hlt)
    refine codeAny_builtin F.entry_sum_loop ?_
    rw [Around.under_plainId F.plain_sum_loop _]
    show wpAny _ A.in1 (seqItems? (.ref S) >>= _) _ _ s
    refine wpAny_bind (wpAny_seqItems hs rfl ?_)
    show wpAny _ A.in1 (tryCatch (pyNext (.ref I)) _ >>= _) _ _ s
    refine wpAny_bind (wpAny_tryCatch (wpAny_pyNext_list_item hit (hl0.at fun o z => kp l o z) hb1 fun h' hit2 hx => ?_))
    have kp1 : Kp h0 h' := fun c o z => hx.extBut c o (out hI c o z) (kp c o z)
    have htake : (ls.take (i + 1)).flatten = (ls.take i).flatten ++ ls[i] := by
      rw [List.take_succ, List.getElem?_eq_getElem hlt, List.flatten_append]
      simp
    have hfit := join_len ls (i + 1)
    rw [htake, List.length_append] at hfit
    show wpAny _ A.in1 ((holding [Value.ref b] (binaryOp .Add (.ref T) (.ref b))).attempt >>= _) _ _ _
    refine wpAny_bind (wpAny_attempt (wpAny_holding (add_two (s := { s with heap := h' }) (hTl.at fun o z => hx.extBut T o n2 z) (hb2.at fun o z => kp1 b o z) (by rw [List.size_toArray, List.size_toArray]; omega) ?_)))
    have hs1 : h'.get? S = _ := hx.extBut S _ hSI hs
    have hTs : T < s.heap.objs.size := let ⟨_, z, _⟩ := hTl; Heap.lt_size z
    have hSs : S < h'.objs.size := Heap.lt_size hs1
    have hIs : I < h'.objs.size := let ⟨_, z, _⟩ := hit2; Heap.lt_size z
    have k2 : Kp h' (h'.push { cls := .type "list", data := .seq (((ls.take i).flatten).toArray ++ (ls[i]).toArray) }) := fun _ _ z => Heap.get?_push_of_some _ z
    have hnew : (h'.push { cls := .type "list", data := .seq (((ls.take i).flatten).toArray ++ (ls[i]).toArray) }).IsList h'.objs.size ((ls.take (i + 1)).flatten).toArray := ⟨_, Heap.get?_push_size _ rfl, rfl, 0, by rw [htake]; simp⟩
    have hobj : (h'.push { cls := .type "list", data := .seq (((ls.take i).flatten).toArray ++ (ls[i]).toArray) }).get? h'.objs.size = some { cls := .type "list", data := .seq ((ls.take (i + 1)).flatten).toArray } := by
      rw [htake, show ((ls.take i).flatten ++ ls[i]).toArray = ((ls.take i).flatten).toArray ++ (ls[i]).toArray by simp]
      exact Heap.get?_push_size _ rfl
    have hs2 := k2 S _ hs1
    show wpAny _ A.in1 (updateSeq S (fun _ => #[.ref h'.objs.size]) >>= _) _ _ _
    refine wpAny_bind (wpAny_updateSeq hs2 rfl ?_)
    have hs3 := Heap.get?_update_self (Obj.mapSeq fun _ => #[Value.ref h'.objs.size]) hs2 rfl
    have oth : ∀ c o, c ≠ S → (h'.push { cls := .type "list", data := .seq (((ls.take i).flatten).toArray ++ (ls[i]).toArray) }).get? c = some o →
        (((h'.push { cls := .type "list", data := .seq (((ls.take i).flatten).toArray ++ (ls[i]).toArray) }).update S (Obj.mapSeq fun _ => #[Value.ref h'.objs.size])).update S (Obj.mapSeq fun _ => #[Value.ref h'.objs.size])).get? c = some o := fun c o hc z =>
      (Heap.get?_update_other _ _ (Ne.symm hc)).trans ((Heap.get?_update_other _ _ (Ne.symm hc)).trans z)
    refine wpAny_bind (wpAny_letGo ?_)
    refine wpAny_bind (wpAny_updateSeq hs3 rfl (wpAny_pure ⟨plainId_quiet F.plain_sum_loop _, ih (i + 1) _ h'.objs.size _ (by omega) hlt (hit2.at fun o z => oth I o (Ne.symm hSI) (k2 I o z)) (fun c o z => oth c o (out hS c o z) (k2 c o (kp1 c o z))) (Heap.get?_update_self _ hs3 rfl) (Nat.ne_of_gt hSs) (Nat.ne_of_gt hIs) (.inl ⟨Nat.le_of_lt (Nat.lt_of_le_of_lt hS hSs), oth _ _ (Nat.ne_of_gt hSs) hobj⟩) (hnew.at fun o z => oth _ o (Nat.ne_of_gt hSs) z) fun s' T' g1 g2 g3 => hR s' T' g1 g2 g3⟩))
theorem args_sum2 (a b : Value) : argsOk "sum" ⟨[a, b], []⟩ := by unfold argsOk; kernel_rfl
theorem sum_lists {l st : Addr} {items : Array Value} {ls : List (List Value)} {Q : Value → Shared → Prop} (hh : A.handled = none) (hl : s.heap.IsList l items) (L0 : Lists s.heap items ls) (hst : s.heap.IsList st #[]) (hsz : ls.flatten.length ≤ sizeLine)
    (h : ∀ s' T', s'.gens = s.gens → s'.os = s.os → s'.drawn = s.drawn → Kp s.heap s'.heap → ((s.heap.objs.size ≤ T' ∧ s'.heap.get? T' = some { cls := .type "list", data := .seq ls.flatten.toArray }) ∨ T' = st ∧ ls = []) → Q (.ref T') s') :
    wpAny (model P w) A (call (.builtin "sum") [.ref l, .ref st]) Q E s := by
  refine call_function_tree F.kind_sum F.plain_sum F.entry_sum (args_sum2 _ _) ?_
  unfold Builtin.«sum»
  simp only [List.length_cons, List.length_nil]
  rw [if_neg (by decide)]
  refine wpAny_bind (wpAny_of_eq (show Builtin.Builtins.bindParams "sum" ["start"] 0 ⟨[.ref st], []⟩ = pure [some (.ref st)] from rfl) ?_)
  refine wpAny_bind (wpAny_pyIter_list hl ?_)
  refine wpAny_bind (wpAny_pure ?_)
  have k1 : Kp s.heap (s.heap.push { cls := .type "list_iterator", data := .fields #[.ref l, .int 0 0] }) := fun _ _ z => Heap.get?_push_of_some _ z
  have hst1 := hst.at fun o z => k1 st o z
  have hT : Shared.TypeIs { s with heap := s.heap.push { cls := .type "list_iterator", data := .fields #[.ref l, .int 0 0] } } (.ref st) "list" := let ⟨o, z, c, _⟩ := hst1; ⟨o, z, c⟩
  simp only [List.forIn_cons, List.forIn_nil]
  refine wpAny_bind (wpAny_bind (wpAny_bind (wpAny_isInstance (T := "list") (b := false) hT (by rw [isSubtype_type]; kernel_rfl) ?_)))
  simp only [Bool.false_eq_true, if_false]
  refine wpAny_pure (wpAny_bind (wpAny_bind (wpAny_isInstance (T := "list") (b := false) hT (by rw [isSubtype_type]; kernel_rfl) ?_)))
  simp only [Bool.false_eq_true, if_false]
  refine wpAny_pure (wpAny_bind (wpAny_bind (wpAny_isInstance (T := "list") (b := false) hT (by rw [isSubtype_type]; kernel_rfl) ?_)))
  simp only [Bool.false_eq_true, if_false]
  refine wpAny_pure (wpAny_pure ?_)
  refine wpAny_bind (wpAny_newObj_type ?_)
  have hz : (s.heap.push { cls := .type "list_iterator", data := .fields #[.ref l, .int 0 0] }).objs.size = s.heap.objs.size + 1 := Heap.size_push ..
  have lst : st < s.heap.objs.size := let ⟨_, z, _⟩ := hst; Heap.lt_size z
  refine wpAny_pure ⟨plainId_quiet F.plain_sum_loop _, add_loop (st := st) (S := (s.heap.push { cls := .type "list_iterator", data := .fields #[.ref l, .int 0 0] }).objs.size) (I := s.heap.objs.size) s.heap (by rw [hz]; exact Nat.le_succ _) (Nat.le_refl _) (by rw [hz]; exact Nat.ne_of_gt (Nat.lt_succ_self _)) hl L0 hsz hh ls.length 0 _ st _ rfl (Nat.zero_le _)
    ⟨_, Heap.get?_push_of_some _ (Heap.get?_push_size _ rfl), rfl, rfl⟩ (fun b o z => Heap.get?_push_of_some _ (k1 b o z)) (Heap.get?_push_size _ rfl) (by rw [hz]; exact Nat.ne_of_lt (Nat.lt_succ_of_lt lst)) (Nat.ne_of_lt lst) (.inr ⟨rfl, rfl⟩) (by rw [List.take_zero]; exact hst1.at fun o z => Heap.get?_push_of_some _ z) fun s' T' g1 g2 g3 kp' hT' => ?_⟩
  exact h s' T' g1 g2 g3 kp' hT'
end
section
variable {X : Cx}
/-- a list of lists, some of them perhaps the same -/
def IsLW (K : PySem.W.Frag) (H : Hp) (l : Addr) (rows : List (List PyData)) : Prop := ∃ ls : List Addr, H l = some (.lst (ls.map V.ref)) ∧ ls.length = rows.length ∧ ∀ (i : Nat) a ds, ls[i]? = some a → rows[i]? = some ds → IsL K H a ds
theorem IsLL.w {K : PySem.W.Frag} {H : Hp} {l : Addr} {rows : List (List PyData)} (h : IsLL K H l rows) : IsLW K H l rows := let ⟨ls, e, h1, _, h2⟩ := h; ⟨ls, e, h1, h2⟩
/-- sum(xs, []) -/
def rSumL (K : PySem.W.Frag) : List V → Hp → VK → Prop := fun xs H Q => ∃ a b dss, xs = [.ref a, .ref b] ∧ IsLW K H a dss ∧ IsL K H b [] ∧ dss.flatten.length < 1000000 ∧ ∀ H' p, Same H H' → IsL K H' p dss.flatten → Q (.ref p) H'
theorem refs_eq : ∀ (as : List Addr) {us : List Value}, Vals (as.map V.ref) us → us = as.map Value.ref
  | [], _, h => by cases h; rfl
  | a :: as, _, h => by
    cases h with
    | cons r t =>
      cases r
      rw [refs_eq as t]
      rfl
theorem vals_append {xs ys : List V} {us ws : List Value} (h : Vals xs us) (g : Vals ys ws) : Vals (xs ++ ys) (us ++ ws) := by
  induction h with
  | nil => exact g
  | cons r _ ih => exact .cons r ih
theorem lists_of {pins : List (Addr × Obj)} {σ : L2.St} {H : Hp} {s : Shared} (I : Inv X pins σ H s) : ∀ (as : List Addr) (rows : List (List PyData)), as.length = rows.length → (∀ (i : Nat) a ds, as[i]? = some a → rows[i]? = some ds → IsL X.K H a ds) →
    ∃ (vv : List (List V)) (uu : List (List Value)), uu.length = as.length ∧ (∀ (i : Nat) u, uu[i]? = some u → ∃ a, as[i]? = some a ∧ s.heap.IsList a u.toArray) ∧ Vals vv.flatten uu.flatten ∧ IsA X.K H vv.flatten rows.flatten
  | [], [], _, _ => ⟨[], [], rfl, (fun i u h => by simp at h), .nil, .nil⟩
  | [], _ :: _, h, _ => nomatch h
  | _ :: _, [], h, _ => nomatch h
  | a :: as, ds :: rows, h, g => by
    obtain ⟨vv, uu, e1, e2, e3, e4⟩ := lists_of I as rows (Nat.succ.inj h) fun i b es q r => g (i + 1) b es q r
    obtain ⟨xs, ht, ha⟩ := (g 0 a ds rfl rfl).sq
    obtain ⟨its, rv, hl, hz⟩ := I.list ht
    refine ⟨xs :: vv, its :: uu, by rw [List.length_cons, List.length_cons, e1], fun i u hu => ?_, by rw [List.flatten_cons, List.flatten_cons]; exact vals_append rv e3, by rw [List.flatten_cons, List.flatten_cons]; exact ha.append e4⟩
    cases i with
    | zero => cases hu; exact ⟨a, rfl, hl.isList⟩
    | succ i => exact e2 i u hu
theorem cr_sumL (hc : X.calm = true) : CallR X (.builtin "sum") (rSumL X.K) := by
  intro pins s σ H vs us Q I r h
  obtain ⟨a, b, dss, rfl, ⟨as, ea, el, eg⟩, hb, hz, q⟩ := h
  obtain ⟨u1, u2, rfl, r1, r2⟩ := r.two
  cases r1
  cases r2
  obtain ⟨its, rv, hl, _⟩ := I.list (SqL.of ea)
  obtain ⟨vv, uu, e1, e2, e3, e4⟩ := lists_of I as dss el eg
  obtain ⟨ys, hbt, hba⟩ := hb.sq
  obtain ⟨itb, rvb, hlb, _⟩ := I.list hbt
  have hnil : itb = [] := by
    cases hba
    cases rvb
    rfl
  rw [hnil] at hlb
  have hits : its = as.map Value.ref := refs_eq as rv
  have hlen : uu.flatten.length < 1000000 := by rw [← e3.length, e4.length]; exact hz
  refine sum_lists (ls := uu) (I.ok.hd hc) hl.isList ⟨by rw [List.size_toArray, hits, List.length_map, e1], fun i l hi => ?_⟩ hlb.isList (by rw [sizeLine_eq]; omega) fun s' T' g1 g2 g3 kp hT' => ?_
  · obtain ⟨c, hc1, hc2⟩ := e2 i l hi
    exact ⟨c, by rw [hits]; simp [hc1], hc2⟩
  · have es : s' = { s with heap := s'.heap, toks := s'.toks } := by
      cases s'
      cases s
      cases g1
      cases g2
      cases g3
      rfl
    rw [es]
    rcases hT' with ⟨hT', ho⟩ | ⟨rfl, hl0⟩
    · have hn : H T' = none := I.hok.fresh hT'
      have J : Inv X pins σ (upd H T' (.lst vv.flatten)) { s with heap := s'.heap, toks := s'.toks } := I.laid kp hT' ⟨by rw [e4.length, sizeLine_eq]; omega, uu.flatten, 0, e3, ho⟩
      exact ⟨.ref T', _, J, rfl, q _ _ (same_upd hn) (IsL.mk hn e4)⟩
    · have hr : dss.flatten = [] := by
        rw [hl0] at e1
        have : dss = [] := List.eq_nil_of_length_eq_zero (by rw [← el, ← e1]; rfl)
        rw [this]
        rfl
      exact ⟨.ref _, H, I.kept (t' := s'.toks) kp, rfl, q _ _ (fun _ _ z => z) (by rw [hr]; exact hb)⟩
end
end UG
end
section
/-! Unitgrids, rules that the layer lacks: sets whose items are nested tuples: the search. -/
namespace UG
open PySem PySem.Spec PyProof.Rows L2
mutual
/-- no text stands in it -/
def dry : NestedKey → Bool
  | .none => true
  | .num _ => true
  | .text _ => false
  | .tup ks => dryAll ks
def dryAll : List NestedKey → Bool
  | [] => true
  | k :: ks => dry k && dryAll ks
end
/-- what is to be known of an item: the object at b is the key k -/
def It1 (h : Heap) (k : NestedKey) (b : Addr) : Prop := NestedIs h k (.ref b) ∧ k.depth ≤ 8 ∧ dry k = true
section
variable {P : Program} {w : World} {A : Around} {E : Value → Shared → Prop}
/-- an answer that a question gives without doing anything -/
def Says (P : Program) (w : World) (s : Shared) (m : Sem Bool) (b : Bool) : Prop := ∀ (A : Around) (E : Value → Shared → Prop) (Q : Bool → Shared → Prop), Q b s → wpAny (model P w) A m Q E s
/-- asked of each in turn -/
theorem says_all {s : Shared} {f : Value → Sem Bool} {items : Array Value} {good stop : Bool} (hb : (!good) = stop ∨ good = stop) (h : ∀ v ∈ items.toList, Says P w s (f v) true) {Q : Bool → Shared → Prop} {A : Around} {E : Value → Shared → Prop} (q : Q true s) :
    wpAny (model P w) A (do
      for x in items do
        if !(← f x) then return false
      return true) Q E s := by
  refine wpAny_bind ?_
  rw [← Array.forIn_toList]
  refine wpAny_forIn_list _ (fun rest r s' => r.1 = none ∧ s' = s ∧ ∀ v ∈ rest, Says P w s (f v) true) _ ?_ ?_ _ _ ⟨rfl, rfl, h⟩
  · rintro v rest r s' ⟨hr, rfl, hall⟩
    refine wpAny_bind (hall v List.mem_cons_self A E _ ?_)
    simp only [Bool.not_true, Bool.false_eq_true, if_false]
    exact wpAny_pure ⟨rfl, rfl, fun u hu => hall u (List.mem_cons_of_mem _ hu)⟩
  · rintro ⟨r1, r2⟩ s' ⟨hr, rfl, _⟩
    simp only at hr
    subst hr
    exact wpAny_pure q
theorem says_none {s : Shared} {f : Value → Sem Bool} {items : Array Value} (h : ∀ v ∈ items.toList, Says P w s (f v) false) {Q : Bool → Shared → Prop} {A : Around} {E : Value → Shared → Prop} (q : Q false s) :
    wpAny (model P w) A (do
      for x in items do
        if ← f x then return true
      return false) Q E s := by
  refine wpAny_bind ?_
  rw [← Array.forIn_toList]
  refine wpAny_forIn_list _ (fun rest r s' => r.1 = none ∧ s' = s ∧ ∀ v ∈ rest, Says P w s (f v) false) _ ?_ ?_ _ _ ⟨rfl, rfl, h⟩
  · rintro v rest r s' ⟨hr, rfl, hall⟩
    refine wpAny_bind (hall v List.mem_cons_self A E _ ?_)
    simp only [Bool.false_eq_true, if_false]
    exact wpAny_pure ⟨rfl, rfl, fun u hu => hall u (List.mem_cons_of_mem _ hu)⟩
  · rintro ⟨r1, r2⟩ s' ⟨hr, rfl, _⟩
    simp only at hr
    subst hr
    exact wpAny_pure q
mutual
theorem by_value : ∀ (k : NestedKey) (v : Value) (n : Nat) (s : Shared), NestedIs s.heap k v → dry k = true → k.depth ≤ n → Says P w s (hashByValue n v) true
  | .none, _, n, s, x, _, _, A, E, Q, q => by cases x; cases n <;> exact wpAny_pure q
  | .num _, _, n, s, x, _, _, A, E, Q, q => by cases x <;> cases n <;> exact wpAny_pure q
  | .text _, _, n, s, x, d, _, A, E, Q, q => nomatch d
  | .tup ks, _, 0, s, x, d, hn, A, E, Q, q => by simp [NestedKey.depth] at hn
  | .tup ks, _, n + 1, s, x, d, hn, A, E, Q, q => by
    cases x with
    | @tup b o vs m _ ho hc hd hi =>
      have hT : s.TypeIs (.ref b) "tuple" := ⟨o, ho, hc⟩
      unfold hashByValue
      refine wpAny_bind (wpAny_specialOf hT F.slot_tuple_hash.lookup ?_)
      show wpAny _ _ (seqItems? (.ref b) >>= _) _ _ s
      refine wpAny_bind (wpAny_seqItems ho hd ?_)
      exact says_all (items := vs) (good := true) (stop := true) (.inr rfl) (by_values ks vs.toList n s hi d (by simp only [NestedKey.depth] at hn; omega)) q
theorem by_values : ∀ (ks : List NestedKey) (vs : List Value) (n : Nat) (s : Shared), NestedAll s.heap ks vs → dryAll ks = true → NestedKey.depthAll ks ≤ n → ∀ v ∈ vs, Says P w s (hashByValue n v) true
  | [], _, n, s, x, _, _, v, hv => by cases x; cases hv
  | k :: ks, _, n, s, x, d, hn, v, hv => by
    cases x with
    | cons x1 x2 =>
      simp only [NestedKey.depthAll] at hn
      rw [dryAll, Bool.and_eq_true] at d
      rcases List.mem_cons.mp hv with e | hv
      · rw [e]; exact by_value k _ n s x1 d.1 (by omega)
      · exact by_values ks _ n s x2 d.2 (by omega) v hv
end
mutual
theorem no_class : ∀ (k : NestedKey) (v : Value) (n : Nat) (s : Shared), NestedIs s.heap k v → k.depth ≤ n → Says P w s (ofAClassStatement n v) false
  | .none, _, n, s, x, _, A, E, Q, q => by cases x; cases n <;> exact wpAny_pure q
  | .num _, _, n, s, x, _, A, E, Q, q => by cases x <;> cases n <;> exact wpAny_pure q
  | .text _, _, n, s, x, _, A, E, Q, q => by cases x; cases n <;> exact wpAny_pure q
  | .tup ks, _, 0, s, x, hn, A, E, Q, q => by simp [NestedKey.depth] at hn
  | .tup ks, _, n + 1, s, x, hn, A, E, Q, q => by
    cases x with
    | @tup b o vs m _ ho hc hd hi =>
      have hT : s.TypeIs (.ref b) "tuple" := ⟨o, ho, hc⟩
      unfold ofAClassStatement
      refine wpAny_bind (wpAny_typeOf hT ?_)
      dsimp only
      have e : (("tuple" : String) == "tuple") = true := by decide
      simp only [e, if_true, Bool.not_true, Bool.false_eq_true, if_false]
      try refine wpAny_bind (wpAny_pure ?_)
      try simp only [Bool.not_true, Bool.false_eq_true, if_false]
      show wpAny _ _ (seqItems? (.ref b) >>= _) _ _ s
      refine wpAny_bind (wpAny_seqItems ho hd ?_)
      dsimp only
      exact says_none (no_classes ks vs.toList n s hi (by simp only [NestedKey.depth] at hn; omega)) q
theorem no_classes : ∀ (ks : List NestedKey) (vs : List Value) (n : Nat) (s : Shared), NestedAll s.heap ks vs → NestedKey.depthAll ks ≤ n → ∀ v ∈ vs, Says P w s (ofAClassStatement n v) false
  | [], _, n, s, x, _, v, hv => by cases x; cases hv
  | k :: ks, _, n, s, x, hn, v, hv => by
    cases x with
    | cons x1 x2 =>
      simp only [NestedKey.depthAll] at hn
      rcases List.mem_cons.mp hv with e | hv
      · rw [e]; exact no_class k _ n s x1 (by omega)
      · exact no_classes ks _ n s x2 (by omega) v hv
end
variable {s : Shared}
/-- a search among such items shows nothing -/
theorem unseen {k : NestedKey} {b : Addr} {Q : Bool → Shared → Prop} (hk : It1 s.heap k b) {ys : List Value} (hy : ∀ y ∈ ys, ∃ k' c, y = Value.ref c ∧ It1 s.heap k' c) (q : Q false s) : wpAny (model P w) A (searchCouldBeSeen (.ref b) ys) Q E s := by
  unfold searchCouldBeSeen
  refine wpAny_bind ?_
  refine wpAny_forIn_list _ (fun rest r s' => r.1 = none ∧ s' = s ∧ ∀ y ∈ rest, ∃ k' c, y = Value.ref c ∧ It1 s.heap k' c) _ ?_ ?_ _ _ ⟨rfl, rfl, hy⟩
  · rintro v rest r s' ⟨hr, rfl, hall⟩
    obtain ⟨k', c, rfl, hc⟩ := hall v List.mem_cons_self
    have later : ∀ y ∈ rest, ∃ k' c, y = Value.ref c ∧ It1 s'.heap k' c := fun u hu => hall u (List.mem_cons_of_mem _ hu)
    dsimp only
    by_cases hv : (b == c || (carriedByValue (.ref b) && carriedByValue (.ref c))) = true
    · refine wp_if_pos hv ?_
      exact wpAny_pure ⟨rfl, rfl, later⟩
    · refine wp_if_neg hv ?_
      refine wpAny_bind ((nestedKind P w).quiet (k := k) ⟨hk.1, hk.2.1⟩ ?_)
      simp only [Bool.not_true, Bool.false_eq_true, if_false]
      refine wpAny_bind ((nestedKind P w).quiet (k := k') ⟨hc.1, hc.2.1⟩ ?_)
      simp only [Bool.not_true, Bool.false_eq_true, if_false]
      refine wpAny_bind (no_class k _ 8 s' hk.1 hk.2.1 _ _ _ ?_)
      simp only [Bool.false_eq_true, if_false]
      refine wpAny_bind (no_class k' _ 8 s' hc.1 hc.2.1 _ _ _ ?_)
      simp only [Bool.false_eq_true, if_false]
      exact wpAny_pure ⟨rfl, rfl, later⟩
  · rintro ⟨r1, r2⟩ s' ⟨hr, rfl, _⟩
    simp only at hr
    subst hr
    exact wpAny_pure q
end
end UG
end
section
/-! Unitgrids, rules that the layer lacks: sets whose items are nested tuples: search and add. -/
namespace UG
open PySem PySem.Spec PyProof.Rows L2
/-- an item of a set: its key, its object -/
abbrev Itm := NestedKey × Addr
def hs (w : World) (L : List Itm) : List Int := L.map fun e => e.1.hash w
def ent (w : World) (e : Itm) : Int × Value := (e.1.hash w, Value.ref e.2)
/-- at a stands a set of the items L, as the table has them -/
structure SetN (w : World) (h : Heap) (a : Addr) (L : List Itm) (es : Array (Int × Value)) (ep : Nat) (t : SetTable) : Prop where
  ob : ∃ o, h.get? a = some o ∧ o.ExactSet ∧ o.data = .set es ep t
  ents : es.toList = L.map (ent w)
  tab : TabOk t (hs w L)
  apart : (L.map Prod.fst).Nodup
  its : ∀ e ∈ L, It1 h e.1 e.2
  plain : t.plain = true
  led : w.params.followText "set-order" = true ∨ t.led = true
  room : L.length * 5 < t.mask * 3
variable {P : Program} {w : World} {A : Around} {E : Value → Shared → Prop} {s : Shared} {a : Addr} {L : List Itm} {es : Array (Int × Value)} {ep : Nat} {t : SetTable}
theorem hs_len (w : World) (L : List Itm) : (hs w L).length = L.length := by unfold hs; rw [List.length_map]
theorem ents_size (h : es.toList = L.map (ent w)) : es.size = L.length := by
  rw [← Array.length_toList, h, List.length_map]
theorem ents_at (h : es.toList = L.map (ent w)) {i : Nat} {e : Itm} (he : L[i]? = some e) : es[i]? = some (ent w e) := by
  rw [← Array.getElem?_toList, h, List.getElem?_map, he]
  rfl
theorem SetN.few (R : SetN w s.heap a L es ep t) : L.length < 77 := by
  have h1 := R.room
  rcases R.tab.mok with e | e | e <;> rw [e] at h1 <;> omega
theorem SetN.fits (R : SetN w s.heap a L es ep t) : t.fits es.size = true := by
  have h1 := R.tab.sz
  rw [hs_len] at h1
  have h2 := ents_size R.ents
  have h3 := R.room
  unfold SetTable.fits SetTable.fill
  rw [R.tab.dm, Bool.and_eq_true, beq_iff_eq, decide_eq_true_eq]
  show t.place.size = es.size ∧ t.place.size + 0 ≤ t.mask
  omega
theorem SetN.sound (R : SetN w s.heap a L es ep t) : ¬ t.gaveWay = true := by
  unfold SetTable.gaveWay
  rw [mask_odd R.tab.mok]
  decide
/-- the c-th state of the way of a hash -/
def stp (t : SetTable) (h : Int) (c : Nat) : SetTable.Probe := nth t.mask (t.probeStart h) c
theorem stp_add (t : SetTable) (h : Int) (c q : Nat) : nth t.mask (stp t h c) q = stp t h (c + q) := (nth_add t.mask c _ q).symm
theorem stp_way (t : SetTable) (h : Int) (c : Nat) : (stp t h c).j = way t.mask h c := rfl
theorem stp_dummy (t : SetTable) (h : Int) (c : Nat) : (stp t h c).dummy = none := by
  have key : ∀ (n : Nat) (p : SetTable.Probe), p.dummy = none → (nth t.mask p n).dummy = none := by
    intro n
    induction n with
    | zero => exact fun p h => h
    | succ n ih =>
      intro p h
      refine ih (adv t.mask p) ?_
      unfold adv
      split <;> exact h
  exact key c _ rfl
/-- the search from the c-th step on: k has not been passed -/
theorem find_from (R : SetN w s.heap a L es ep t) {x : Addr} {k : NestedKey} (hx : It1 s.heap k x) (hu : A.units + 8 < cLine) {K : Nat} (hKf : K < 10 * SetTable.turns t.mask)
    (hK : way t.mask (k.hash w) K ∉ t.place.toList) (hKb : ∀ c, c < K → way t.mask (k.hash w) c ∈ t.place.toList) {Q : SetFound → Shared → Prop}
    (hin : k ∈ L.map Prod.fst → Q (.there none) s) (hout : k ∉ L.map Prod.fst → Q (.free (way t.mask (k.hash w) K) false) s) :
    ∀ (f c : Nat) (stand : Option SetTable.Probe), stand.getD (t.probeStart (k.hash w)) = stp t (k.hash w) c → c ≤ K → K < f + c →
      (∀ (i : Nat) e, L[i]? = some e → e.1 = k → ∀ c', c' < c → t.place.toList[i]? ≠ some (way t.mask (k.hash w) c')) →
      wpAny (model P w) A (setSearchFrom a (.ref x) (k.hash w) true f stand) Q E s := by
  obtain ⟨o, ho, hex, hd⟩ := R.ob
  have hsl := ents_size R.ents
  have hpl : t.place.size = L.length := by rw [R.tab.sz, hs_len]
  intro f
  induction f with
  | zero => intro c stand _ h1 h2; exact absurd h2 (by omega)
  | succ f ih =>
    intro c stand hst hc hf past
    rw [setSearchFrom_succ]
    refine wpAny_bind (wpAny_setState_of ho hd R.fits ?_)
    dsimp only
    refine wp_if_neg R.sound ?_
    try refine wpAny_bind (wpAny_pure ?_)
    have spec := go_spec t R.tab.ris R.tab.dm (fun i => (es[i]?.map (·.1)).getD 0) (k.hash w) (10 * SetTable.turns t.mask) (K - c) (stp t (k.hash w) c) (stp_dummy t _ c) (by omega)
      (fun q hq => by rw [stp_add, stp_way]; exact hKb (c + q) (by omega)) (by rw [stp_add, stp_way, show c + (K - c) = K by omega]; exact hK)
    have hat : ∀ (i : Nat) e, L[i]? = some e → (es[i]?.map (·.1)).getD 0 = e.1.hash w := fun i e he => by
      rw [ents_at R.ents he]
      rfl
    rw [hst]
    rcases spec with ⟨q, i, hq, hi, hh, hno, hpr⟩ | ⟨hno, hpr⟩
    · rw [stp_add, stp_way] at hi
      rw [show t.probe (fun i => (es[i]?.map (·.1)).getD 0) (k.hash w) (stp t (k.hash w) c) = _ from hpr]
      dsimp only
      rw [stp_add, stp_add, stp_way]
      have hil : i < L.length := by
        have h1 : i < t.place.toList.length := (List.getElem?_eq_some_iff.mp hi).1
        rw [Array.length_toList] at h1
        omega
      obtain ⟨e, he⟩ : ∃ e, L[i]? = some e := ⟨_, List.getElem?_eq_getElem hil⟩
      have hmem : e ∈ L := List.mem_of_getElem? he
      have hit := R.its e hmem
      have rest : wpAny (model P w) A (searchRest a (.ref x) (k.hash w) true f es t (way t.mask (k.hash w) (c + q)) i (stp t (k.hash w) (c + (q + 1)))) Q E s := by
        unfold searchRest
        rw [ents_at R.ents he]
        dsimp only [ent]
        refine wpAny_bind (wpAny_holding ((nestedKind P w).eqBool (x := e.1) (y := k) hu ⟨hit.1, hit.2.1⟩ ⟨hx.1, hx.2.1⟩ ?_))
        refine wpAny_bind (wpAny_setState_of ho hd R.fits ?_)
        dsimp only
        by_cases hkk : e.1 = k
        · refine wp_if_pos (by simp [hkk]) ?_
          exact wpAny_pure (hin (List.mem_map.mpr ⟨e, hmem, hkk⟩))
        · refine wp_if_neg (by simp [hkk]) ?_
          try refine wpAny_bind (wpAny_pure ?_)
          rw [sameMem]
          dsimp only
          have hsl2 : t.slot (way t.mask (k.hash w) (c + q)) = .live i := slot_live R.tab.ris hi
          simp only [if_true, hsl2, ents_at R.ents he, ent]
          refine wpAny_bind (wpAny_isSame_ref_self (wpAny_bind (wpAny_pure ?_)))
          simp only [if_true]
          refine wp_if_neg (by simp [hkk]) ?_
          refine ih (c + (q + 1)) _ rfl (by omega) (by omega) fun i0 e0 h0 hk0 c' hc' hp => ?_
          rcases Nat.lt_or_ge c' c with z | z
          · exact past i0 e0 h0 hk0 c' z hp
          · rcases Nat.lt_or_ge c' (c + q) with z2 | z2
            · refine hno (c' - c) i0 (by omega) (by rw [stp_add, stp_way, show c + (c' - c) = c' by omega]; exact hp) ?_
              rw [hat i0 e0 h0, hk0]
            · rw [show c' = c + q by omega] at hp
              have s0 := slot_live R.tab.ris hp
              rw [hsl2] at s0
              injection s0 with s0
              rw [← s0, he] at h0
              cases h0
              exact hkk hk0
      by_cases hl : t.led = true
      · refine wp_if_neg (by simp [hl]) ?_
        try refine wpAny_bind (wpAny_pure ?_)
        exact rest
      · refine wp_if_pos (by simp [hl]) ?_
        refine wpAny_bind (unseen hx (fun y hy => ?_) ?_)
        · obtain ⟨z, hz, ez⟩ := List.mem_map.mp hy
          have hz1 : z ∈ es := by
            have q : z ∈ es ∧ z.1 = k.hash w := by simpa using hz
            exact q.1
          have hz2 : z ∈ L.map (ent w) := by
            rw [← R.ents]
            simpa using hz1
          obtain ⟨e2, he2, e3⟩ := List.mem_map.mp hz2
          exact ⟨e2.1, e2.2, by rw [← ez, ← e3]; rfl, R.its e2 he2⟩
        · refine wp_if_neg (by decide) ?_
          try refine wpAny_bind (wpAny_pure ?_)
          exact rest
    · rw [show t.probe (fun i => (es[i]?.map (·.1)).getD 0) (k.hash w) (stp t (k.hash w) c) = _ from hpr]
      dsimp only
      rw [stp_add, stp_way, show c + (K - c) = K by omega]
      refine wpAny_pure (hout fun hm => ?_)
      obtain ⟨e0, h0, hk0⟩ := List.mem_map.mp hm
      obtain ⟨i0, hi0⟩ := List.mem_iff_getElem?.mp h0
      have hi1 : (hs w L)[i0]? = some (k.hash w) := by
        unfold hs
        rw [List.getElem?_map, hi0, ← hk0]
        rfl
      have hlt : i0 < t.place.toList.length := by
        rw [Array.length_toList, hpl]
        exact (List.getElem?_eq_some_iff.mp hi0).1
      obtain ⟨c', h1, h2⟩ := R.tab.before hK hi1 (List.getElem?_eq_getElem hlt)
      have hp : t.place.toList[i0]? = some (way t.mask (k.hash w) c') := by rw [h2]; exact List.getElem?_eq_getElem hlt
      rcases Nat.lt_or_ge c' c with z | z
      · exact past i0 e0 hi0 hk0 c' z hp
      · refine hno (c' - c) i0 (by omega) (by rw [stp_add, stp_way, show c + (c' - c) = c' by omega]; exact hp) ?_
        rw [hat i0 e0 hi0, hk0]
theorem find_at (R : SetN w s.heap a L es ep t) {x : Addr} {k : NestedKey} (hx : It1 s.heap k x) (hu : A.units + 8 < cLine) {Q : SetFound → Shared → Prop} (hin : k ∈ L.map Prod.fst → Q (.there none) s)
    (hout : ∀ K, k ∉ L.map Prod.fst → way t.mask (k.hash w) K ∉ t.place.toList → (∀ c, c < K → way t.mask (k.hash w) c ∈ t.place.toList) → Q (.free (way t.mask (k.hash w) K) false) s) :
    wpAny (model P w) A (setSearch a (.ref x) (k.hash w) true) Q E s := by
  have hroom := R.room
  obtain ⟨K, hKf, hK, hKb⟩ := R.tab.first (by rw [hs_len]; omega) (k.hash w)
  have big : 10 * SetTable.turns t.mask ≤ 1420 := by
    unfold SetTable.turns
    rcases R.tab.mok with e | e | e <;> omega
  unfold setSearch
  exact find_from R hx hu hKf hK hKb hin (fun hn => hout K hn hK hKb) 100000 0 none rfl (Nat.zero_le _) (by omega) fun _ _ _ _ c' h => absurd h (Nat.not_lt_zero _)
/-- an item is not the set -/
theorem It1.at {h h' : Heap} {k : NestedKey} {b : Addr} (x : It1 h k b) (g : ∀ b o vs n, h.get? b = some o → o.data = .seq vs n → h'.get? b = some o) : It1 h' k b := ⟨NestedIs.at g k _ x.1, x.2⟩
theorem It1.but {h h' : Heap} {k : NestedKey} {b : Addr} {o : Obj} (x : It1 h k b) (ho : h.get? a = some o) (hd : o.data = .set es ep t) (hb : Heap.SameBut a h h') : It1 h' k b := x.at fun c u vs n hc hu => by
  refine (hb.2 c fun z => ?_).trans hc
  rw [z, ho] at hc
  cases hc
  rw [hd] at hu
  cases hu
/-- the items in another order, as the table's -/
theorem in_order (order : Array Nat) (hr : es.toList = L.map (ent w)) (hp : order.toList.Perm (List.range L.length)) :
    ∃ L2 : List Itm, (order.filterMap (es[·]?)).toList = L2.map (ent w) ∧ L2.Perm L ∧ hs w L2 = order.toList.map fun i => (es.map (·.1)).getD i 0 := by
  refine ⟨order.toList.filterMap fun i => L[i]?, ?_, ?_, ?_⟩
  · have e : ∀ i, es[i]? = (L[i]?).map (ent w) := fun i => by rw [← Array.getElem?_toList, hr, List.getElem?_map]
    rw [Array.toList_filterMap, List.map_filterMap]
    simp only [e]
  · have h1 := hp.filterMap fun i => L[i]?
    have h2 : (List.range L.length).filterMap (fun i => L[i]?) = L := by
      apply List.ext_getElem?
      intro i
      have key : ∀ n, n ≤ L.length → (List.range n).filterMap (fun i => L[i]?) = L.take n := by
        intro n
        induction n with
        | zero => intro _; rfl
        | succ n ih =>
          intro hn
          rw [List.range_succ, List.filterMap_append, ih (Nat.le_of_lt hn), List.take_succ, List.filterMap_cons_some (f := fun i => L[i]?) (List.getElem?_eq_getElem hn), List.getElem?_eq_getElem hn]
          rfl
      rw [key L.length (Nat.le_refl _), List.take_length]
    rw [h2] at h1
    exact h1
  · have low : ∀ i ∈ order.toList, i < L.length := fun i hi => List.mem_range.mp (hp.mem_iff.mp hi)
    unfold hs
    rw [List.map_filterMap]
    have key : ∀ l : List Nat, (∀ i ∈ l, i < L.length) → l.filterMap (fun i => (L[i]?).map fun e => e.1.hash w) = l.map fun i => (es.map (·.1)).getD i 0 := by
      intro l
      induction l with
      | nil => intro _; rfl
      | cons i l ih =>
        intro hl
        have hi := hl i List.mem_cons_self
        have h1 : L[i]? = some L[i] := List.getElem?_eq_getElem hi
        rw [List.filterMap_cons_some (b := (L[i]).1.hash w) (by rw [h1]; rfl), ih fun j hj => hl j (List.mem_cons_of_mem _ hj), List.map_cons]
        have h2 : (es.map (·.1))[i]? = some ((L[i]).1.hash w) := by rw [Array.getElem?_map, ents_at hr h1]; rfl
        rw [Array.getD_eq_getD_getElem?, h2]
        rfl
    exact key _ low
end UG
end
section
/-! Unitgrids, rules that the layer lacks: sets whose items are nested tuples: adding. -/
namespace UG
open PySem PySem.Spec PyProof.Rows L2
variable {P : Program} {w : World} {A : Around} {E : Value → Shared → Prop} {s : Shared} {a : Addr} {L : List Itm} {es : Array (Int × Value)} {ep : Nat} {t : SetTable}
theorem store_ents {h : Heap} {o : Obj} {es' : Array (Int × Value)} {t' : SetTable} (ho : h.get? a = some o) (hd : o.data = .set es ep t) : (h.update a (Obj.putSet es' t')).get? a = some { o with data := .set es' (ep + 1) t' } := store_at ho hd
/-- the table laid anew, larger -/
theorem grow_at {o : Obj} (ho : s.heap.get? a = some o) (hex : o.ExactSet) (hd : o.data = .set es ep t) (hr : es.toList = L.map (ent w)) (hsz : t.place.size = es.size) (hdm : t.dummies = #[]) (hfl : es.size ≤ t.mask)
    (nd : (L.map Prod.fst).Nodup) (its : ∀ e ∈ L, It1 s.heap e.1 e.2) (pl : t.plain = true) (ld : w.params.followText "set-order" = true ∨ t.led = true) {wanted M : Nat}
    (hw : SetTable.sizeAbove wanted - 1 = M) (hM : MaskOk M) (hw2 : SetTable.sizeAbove wanted ≤ 128) (hn : L.length * 5 < M * 3) {Q : Unit → Shared → Prop}
    (q : ∀ h' L' es' ep' t', Heap.SameBut a s.heap h' → SetN w h' a L' es' ep' t' → L'.Perm L → Q () { s with heap := h' }) : wpAny (model P w) A (setRelay a wanted) Q E s := by
  have hsl := ents_size hr
  have hfits : t.fits es.size = true := by
    unfold SetTable.fits SetTable.fill
    rw [hdm, Bool.and_eq_true, beq_iff_eq, decide_eq_true_eq]
    show t.place.size = es.size ∧ t.place.size + 0 ≤ t.mask
    omega
  obtain ⟨t', order, e, hp, T, em, el, epl, ed⟩ := relaid_ok t (hs := es.map (·.1)) (wanted := wanted) hw hM (by rw [Array.size_map, hsl]; omega)
  rw [Array.size_map, hsl] at hp
  obtain ⟨L2, r1, r2, r3⟩ := in_order order hr hp
  rw [← r3] at T
  have hs2 : (order.filterMap (es[·]?)).size = es.size := by rw [ents_size r1, r2.length_eq, hsl]
  have sb : Heap.SameBut a s.heap (s.heap.update a (Obj.putSet (order.filterMap (es[·]?)) t')) := Heap.SameBut.update ..
  rw [setRelay_eq]
  refine wpAny_bind (wpAny_setState_of ho hd hfits ?_)
  dsimp only
  refine wp_if_neg (by rw [sizeLine_eq]; omega) ?_
  try refine wpAny_bind (wpAny_pure ?_)
  rw [e]
  dsimp only
  refine wpAny_bind ?_
  refine wp_if_neg (by rw [hs2]; simp) ?_
  try refine wpAny_bind (wpAny_pure ?_)
  refine wpAny_pure ?_
  dsimp only
  have hl128 : L.length < 128 := by rcases hM with z | z | z <;> omega
  refine wpAny_storeSet_of ho hd ?_ (by rw [hs2, hsl, sizeLine_eq]; omega)
  refine q _ L2 (order.filterMap (es[·]?)) (ep + 1) t' sb ?_ r2
  exact ⟨⟨_, store_ents ho hd, ⟨hex.1, hex.2.1, hex.2.2⟩, rfl⟩, r1, T, (r2.map Prod.fst).nodup_iff.mpr nd, fun e he => (its e (r2.mem_iff.mp he)).but ho hd sb, by rw [epl]; exact pl, by rw [el]; exact ld, by rw [r2.length_eq, em]; exact hn⟩
/-- one more item -/
theorem more_at (R : SetN w s.heap a L es ep t) {x : Addr} {k : NestedKey} (hx : It1 s.heap k x) (hu : A.units + 8 < cLine) (hfew : L.length + 1 < 64) {Q : Bool → Shared → Prop}
    (q : ∀ b h' L' es' ep' t', Heap.SameBut a s.heap h' → SetN w h' a L' es' ep' t' → (k ∈ L.map Prod.fst → L' = L) → (k ∉ L.map Prod.fst → L'.Perm ((k, x) :: L)) → Q b { s with heap := h' }) :
    wpAny (model P w) A (setAddHashed a (.ref x) (k.hash w)) Q E s := by
  obtain ⟨o, ho, hex, hd⟩ := R.ob
  have hsl := ents_size R.ents
  have hroom := R.room
  unfold setAddHashed
  refine wpAny_holding ?_
  rw [show (100000 : Nat) = 99999 + 1 from rfl, setAddHashedIn_succ]
  refine wpAny_bind (wpAny_setState_of ho hd R.fits ?_)
  dsimp only
  refine wp_if_neg (by simp [byScan, Value.scannable]) ?_
  try refine wpAny_bind (wpAny_pure ?_)
  refine wpAny_bind (find_at R hx hu (fun hm => ?_) fun K hm hK hb => ?_)
  · dsimp only
    exact wpAny_pure (q false s.heap L es ep t (Heap.SameBut.refl a s.heap) R (fun _ => rfl) fun z => absurd hm z)
  · dsimp only
    refine wpAny_bind (wpAny_setState_of ho hd R.fits ?_)
    dsimp only
    obtain ⟨q1, q2, q3, q4, q5, q6, q7, q8, q9⟩ := R.tab.put hK hb
    have hp1 : (t.put (way t.mask (k.hash w) K)).1.plain = true := by rw [q6]; exact R.plain
    generalize hpt : t.put (way t.mask (k.hash w) K) = pt at q1 q3 q4 q5 q6 q7 q8 q9 hp1 ⊢
    obtain ⟨t1, p⟩ := pt
    dsimp only at q1 q3 q4 q5 q6 q7 q8 q9 hp1 ⊢
    subst q1
    have hbv := by_value (P := P) (w := w) k (.ref x) 8 s hx.1 hx.2.2 hx.2.1
    first
      | (refine wpAny_bind ?_; refine wp_if_pos hp1 ?_; refine hbv _ _ _ ?_)
      | refine wp_if_pos hp1 (wpAny_bind (hbv _ _ _ ?_))
    simp only [if_true]
    generalize SetTable.below t.place (way t.mask (k.hash w) K) = p at q2 q3 ⊢
    have pm : (L.take p ++ (k, x) :: L.drop p).Perm ((k, x) :: L) := put_perm L p (k, x)
    have hin : (SetTable.insertAt es p (k.hash w, Value.ref x)).toList = (L.take p ++ (k, x) :: L.drop p).map (ent w) := by
      rw [SetTable.toList_insertAt, R.ents, List.map_append, List.map_cons, List.map_take, List.map_drop]
      rfl
    have hhs : hs w (L.take p ++ (k, x) :: L.drop p) = (hs w L).take p ++ k.hash w :: (hs w L).drop p := by
      unfold hs
      rw [List.map_append, List.map_cons, List.map_take, List.map_drop]
    rw [← hhs] at q3
    have hlen : (L.take p ++ (k, x) :: L.drop p).length = L.length + 1 := pm.length_eq
    have nd1 : ((L.take p ++ (k, x) :: L.drop p).map Prod.fst).Nodup := by
      refine (pm.map Prod.fst).nodup_iff.mpr ?_
      rw [List.map_cons]
      exact List.nodup_cons.mpr ⟨hm, R.apart⟩
    have hes : (SetTable.insertAt es p (k.hash w, Value.ref x)).size = L.length + 1 := by rw [ents_size hin, hlen]
    generalize SetTable.insertAt es p (k.hash w, Value.ref x) = es1 at hin hes ⊢
    generalize L.take p ++ (k, x) :: L.drop p = L1 at pm hlen q3 nd1 hin
    refine wpAny_bind (wpAny_storeSet_of ho hd ?_ (by rw [hes, sizeLine_eq]; omega))
    have sb : Heap.SameBut a s.heap (s.heap.update a (Obj.putSet es1 t1)) := Heap.SameBut.update ..
    have ho1 := store_ents (es' := es1) (t' := t1) ho hd
    generalize s.heap.update a (Obj.putSet es1 t1) = h1 at sb ho1 ⊢
    have its1 : ∀ e ∈ L1, It1 h1 e.1 e.2 := fun e he => by
      rcases List.mem_cons.mp (pm.mem_iff.mp he) with z | he
      · rw [z]; exact hx.but ho hd sb
      · exact (R.its e he).but ho hd sb
    have ld1 : w.params.followText "set-order" = true ∨ t1.led = true := by rw [q5]; exact R.led
    by_cases hf : t1.tooFull = true
    · first
        | (refine wpAny_bind ?_; refine wp_if_pos (by simp [hf]) ?_)
        | (refine wp_if_pos (by simp [hf]) ?_; refine wpAny_bind ?_)
      have hfull : (L.length + 1) * 5 ≥ t1.mask * 3 := by
        have h := hf
        unfold SetTable.tooFull at h
        rw [decide_eq_true_eq, q9, hs_len] at h
        exact h
      rw [hsl]
      have hsz1 : t1.place.size = es1.size := by
        have h := q3.sz
        rw [hs_len, hlen] at h
        rw [h, hes]
      have two : (t.mask = 7 ∧ L.length = 4) ∨ (t.mask = 31 ∧ L.length = 18) := by
        rcases R.tab.mok with e | e | e
        · exact .inl ⟨e, by rw [q4, e] at hfull; rw [e] at hroom; omega⟩
        · exact .inr ⟨e, by rw [q4, e] at hfull; rw [e] at hroom; omega⟩
        · exact absurd hfull (by rw [q4, e]; omega)
      have go : ∀ M, SetTable.sizeAbove (SetTable.grown (L.length + 1)) - 1 = M → MaskOk M → SetTable.sizeAbove (SetTable.grown (L.length + 1)) ≤ 128 → (L.length + 1) * 5 < M * 3 →
          wpAny (model P w) A (setRelay a (SetTable.grown (L.length + 1))) (fun _ s' => wpAny (model P w) A (pure true) Q E s') E { s with heap := h1 } := fun M m1 m2 m3 m4 => by
        refine grow_at (s := { s with heap := h1 }) ho1 ⟨hex.1, hex.2.1, hex.2.2⟩ rfl hin hsz1 q3.dm (by rw [hes, q4]; rcases two with ⟨e, e2⟩ | ⟨e, e2⟩ <;> omega) nd1 its1 hp1 ld1 m1 m2 m3 (by rw [hlen]; exact m4) ?_
        intro h2 L2 es2 ep2 t2 sb2 R2 pm2
        exact wpAny_pure (q true h2 L2 es2 ep2 t2 (sb.trans sb2) R2 (fun z => absurd z hm) fun _ => pm2.trans pm)
      rcases two with ⟨_, e2⟩ | ⟨_, e2⟩
      · exact go 31 (by rw [e2, size_20]) (.inr (.inl rfl)) (by rw [e2, size_20]; decide) (by omega)
      · exact go 127 (by rw [e2, size_76]) (.inr (.inr rfl)) (by rw [e2, size_76]; decide) (by omega)
    · first
        | refine wp_if_neg (by simp [hf]) ?_
        | (refine wpAny_bind ?_; refine wp_if_neg (by simp [hf]) ?_; refine wpAny_pure ?_)
      refine wpAny_pure (q true h1 L1 es1 (ep + 1) t1 sb ⟨⟨_, ho1, ⟨hex.1, hex.2.1, hex.2.2⟩, rfl⟩, hin, q3, nd1, its1, hp1, ld1, ?_⟩ (fun z => absurd z hm) fun _ => pm)
      have h := hf
      unfold SetTable.tooFull at h
      rw [decide_eq_true_eq, q9, hs_len] at h
      rw [hlen]
      omega
/-- the keys met so far, each once -/
def Met (ks : List Itm) (i : Nat) (L : List Itm) : Prop := (∀ e ∈ L, e ∈ ks) ∧ ∀ k, k ∈ L.map Prod.fst ↔ k ∈ (ks.take i).map Prod.fst
theorem Met.next {ks L L' : List Itm} {i : Nat} {e : Itm} (m : Met ks i L) (he : ks[i]? = some e) (h1 : e.1 ∈ L.map Prod.fst → L' = L) (h2 : e.1 ∉ L.map Prod.fst → L'.Perm (e :: L)) : Met ks (i + 1) L' := by
  have ht : (ks.take (i + 1)).map Prod.fst = (ks.take i).map Prod.fst ++ [e.1] := by
    rw [List.take_succ, he, List.map_append]
    rfl
  rcases Classical.em (e.1 ∈ L.map Prod.fst) with c | c
  · rw [h1 c]
    refine ⟨m.1, fun k => ?_⟩
    rw [ht, List.mem_append, List.mem_singleton, m.2 k]
    refine ⟨.inl, fun z => z.elim id fun z => ?_⟩
    rw [z, ← m.2]
    exact c
  · refine ⟨fun y hy => ?_, fun k => ?_⟩
    · rcases List.mem_cons.mp ((h2 c).mem_iff.mp hy) with z | z
      · rw [z]; exact List.mem_of_getElem? he
      · exact m.1 y z
    · rw [((h2 c).map Prod.fst).mem_iff, List.map_cons, List.mem_cons, ht, List.mem_append, List.mem_singleton, m.2 k]
      exact or_comm
end UG
end
section
/-! Unitgrids, rules that the layer lacks: sorted(enumerate(t)). -/
namespace UG
open PySem PySem.Spec PyProof.Rows PySem.W L2
section
variable {prog : Program} {w : World} {A : Around} {E : Value → Shared → Prop} {s : Shared}
theorem en_next {e it T : Addr} {fp : List Addr} {n i : Nat} {Pi : Nat → Value → Prop} {St : Nat → Heap → Prop} {old : Value} {f : Bool} {oT : Obj} {Q : Value → Shared → Prop}
    (D : Draws prog w A it fp n Pi St) (he : IsEnumHeld s.heap e it i old T f) (hT : s.heap.get? T = some oT) (hTe : T ≠ e) (hTi : T ≠ it) (hst : St i s.heap) (hlt : i < n) (hne : e ≠ it) (hef : e ∉ fp)
    (hQ : ∀ x h' tk, Pi i x → IsEnumHeld h' e it ((i : Int) + 1) old T true → St (i + 1) h' →
      h'.get? s.heap.objs.size = some { cls := .type "tuple", data := .seq #[.int i tk, x] } → h'.objs.size = s.heap.objs.size + 1 →
      (∀ b o, b ≠ e → b ≠ it → s.heap.get? b = some o → h'.get? b = some o) → Q (.ref s.heap.objs.size) { s with heap := h', toks := tk + 1 }) :
    wpAny (model prog w) A (Builtin.«enumerate.__next__» ⟨[.ref e], []⟩) (fun fin s' => ∃ v, fin = .done (.ret v) ∧ Q v s') E s := by
  obtain ⟨hp, g, d, tk₀, os⟩ := s
  show wpAny _ _ (field (.ref e) 2 >>= _) _ _ _
  refine wpAny_bind (wpAny_field he rfl (x := .ref it) rfl ?_)
  refine wpAny_bind (D.item i _ _ _ hlt hst fun x h₁ tk hPx hit₁ hs₁ => ?_)
  replace hs₁ : Heap.SameBut it hp h₁ := hs₁
  have he₁ : IsEnumHeld h₁ e it i old T f := (hs₁.2 e hne).trans he
  show wpAny _ _ (field (.ref e) 3 >>= _) _ _ ⟨h₁, g, d, tk, os⟩
  refine wpAny_bind (wpAny_field he₁ rfl (x := rawInt i) rfl ?_)
  show wpAny _ _ (field (.ref e) 4 >>= _) _ _ ⟨h₁, g, d, tk, os⟩
  refine wpAny_bind (wpAny_field he₁ rfl (x := .none) rfl ?_)
  show wpAny _ _ (mkInt i >>= _) _ _ ⟨h₁, g, d, tk, os⟩
  refine wpAny_bind (wpAny_mkInt ?_)
  show wpAny _ _ (setField (.ref e) 3 (rawInt ((i : Int) + 1)) >>= _) _ _ ⟨h₁, g, d, tk + 1, os⟩
  refine wpAny_bind (wpAny_setField_rec he₁ (by simp) fun h₂ he₂ hs₂ => ?_)
  replace hs₂ : Heap.SameBut e h₁ h₂ := hs₂
  replace he₂ : IsEnumHeld h₂ e it ((i : Int) + 1) old T f := he₂
  show wpAny _ _ (setField (.ref e) 4 .none >>= _) _ _ ⟨h₂, g, d, tk + 1, os⟩
  refine wpAny_bind (wpAny_setField_rec he₂ (by simp) fun h₃ he₃ hs₃ => ?_)
  replace hs₃ : Heap.SameBut e h₂ h₃ := hs₃
  replace he₃ : IsEnumHeld h₃ e it ((i : Int) + 1) old T f := he₃
  show wpAny _ _ (newTuple [.int i tk, x] >>= _) _ _ ⟨h₃, g, d, tk + 1, os⟩
  refine wpAny_bind (wpAny_newTuple ?_)
  have he₄ : IsEnumHeld (h₃.push { cls := .type "tuple", data := .seq #[.int i tk, x] }) e it ((i : Int) + 1) old T f := Heap.get?_push_of_some _ he₃
  generalize hh₄ : h₃.push { cls := .type "tuple", data := .seq #[.int i tk, x] } = h₄ at he₄
  have hsz : h₃.objs.size = hp.objs.size := by rw [hs₃.1, hs₂.1, hs₁.1]
  have hel : e < hp.objs.size := Heap.lt_size he
  have ht₄ : h₄.get? hp.objs.size = some { cls := .type "tuple", data := .seq #[.int i tk, x] } := by rw [← hh₄, ← hsz]; exact Heap.get?_push_size _ rfl
  have hz₄ : h₄.objs.size = hp.objs.size + 1 := by rw [← hh₄, Heap.size_push, hsz]
  have hk₄ : ∀ b o, b ≠ e → b ≠ it → hp.get? b = some o → h₄.get? b = some o := fun b o hbe hbi hb => by
    rw [← hh₄]; exact Heap.get?_push_of_some _ (hs₃.extBut b o hbe (hs₂.extBut b o hbe (hs₁.extBut b o hbi hb)))
  have hit₄ : St (i + 1) h₄ := D.frame _ _ _ hit₁ fun b hb o y => by
    have hbe : b ≠ e := fun q => hef (q ▸ hb)
    rw [← hh₄]; exact Heap.get?_push_of_some _ (hs₃.extBut b o hbe (hs₂.extBut b o hbe y))
  show wpAny _ _ (Builtin.SmallTypes.ownedTupleIsFree (.ref e) >>= _) _ _ ⟨h₄, g, d, tk + 1, os⟩
  rw [hsz]
  clear hh₄ he₃ hs₃ he₂ hs₂ he₁ hs₁ hit₁ hsz h₃ h₂ h₁
  refine wpAny_bind (wpAny_tupleHeld_enum (s := ⟨h₄, g, d, tk + 1, os⟩) he₄ (hk₄ T oT hTe hTi hT) fun h₅ he₅ hs₅ => ?_)
  replace hs₅ : Heap.SameBut e h₄ h₅ := hs₅
  simp only [Bool.false_eq_true, if_false]
  refine wpAny_pure ⟨_, rfl, hQ x h₅ tk hPx he₅ (D.frame _ _ _ hit₄ fun b hb o y => ?_) (hs₅.extBut _ _ (Nat.ne_of_gt hel) ht₄) ?_ fun b o hbe hbi hb => hs₅.extBut b o hbe (hk₄ b o hbe hbi hb)⟩
  · exact hs₅.extBut b o (fun q => hef (q ▸ hb)) y
  · show h₅.objs.size = hp.objs.size + 1
    rw [hs₅.1, hz₄]
/-- the enumerate at its place i, its last pair held or none yet -/
def EnAt (h : Heap) (e it : Addr) (i : Nat) : Prop := (∃ old, IsEnum h e it (i : Nat) old) ∨ ∃ old T f oT, IsEnumHeld h e it (i : Nat) old T f ∧ h.get? T = some oT ∧ T ≠ e ∧ T ≠ it
theorem EnAt.lt {h : Heap} {e it : Addr} {i : Nat} (x : EnAt h e it i) : ∃ o, h.get? e = some o ∧ o.cls = .type "enumerate" := by
  rcases x with ⟨_, he⟩ | ⟨_, _, _, _, he, _⟩
  · exact ⟨_, he, rfl⟩
  · exact ⟨_, he, rfl⟩
theorem EnAt.keep {h h' : Heap} {e it S : Addr} {i : Nat} (x : EnAt h e it i) (hS : ∀ o, h.get? S = some o → o.cls = .type "list") (hne : S ≠ e) (k : ∀ b o, b ≠ S → h.get? b = some o → h'.get? b = some o) (kS : ∀ o, h.get? S = some o → ∃ o', h'.get? S = some o') : EnAt h' e it i := by
  rcases x with ⟨old, he⟩ | ⟨old, T, f, oT, he, hT, h1, h2⟩
  · exact .inl ⟨old, k e _ (Ne.symm hne) he⟩
  · by_cases z : T = S
    · obtain ⟨o', ho'⟩ := kS oT (z ▸ hT)
      exact .inr ⟨old, T, f, o', k e _ (Ne.symm hne) he, z ▸ ho', h1, h2⟩
    · exact .inr ⟨old, T, f, oT, k e _ (Ne.symm hne) he, k T _ z hT, h1, h2⟩
/-- one item of it -/
theorem en_item {e it t : Addr} {items : Array Value} {i : Nat} {x : Value} {Q : Option Value → Shared → Prop} (hh : A.handled = none) (he : EnAt s.heap e it i) (hit : s.heap.IsTupleIter it t i) (ht : s.heap.IsTuple t items) (hx : items[i]? = some x) (hne : e ≠ it)
    (hQ : ∀ h' tk, EnAt h' e it (i + 1) → h'.IsTupleIter it t (i + 1) → h'.IsTuple t items → h'.get? s.heap.objs.size = some { cls := .type "tuple", data := .seq #[.int i tk, x] } → h'.objs.size = s.heap.objs.size + 1 →
      (∀ b o, b ≠ e → b ≠ it → s.heap.get? b = some o → h'.get? b = some o) → Q (some (.ref s.heap.objs.size)) { s with heap := h', toks := tk + 1 }) :
    wpAny (model prog w) A (pyNext (.ref e)) Q E s := by
  obtain ⟨oe, ho, hc⟩ := he.lt
  have hTy : s.TypeIs (.ref e) "enumerate" := ⟨oe, ho, hc⟩
  have hti : t ≠ it := fun z => by
    obtain ⟨o1, q1, c1, d1⟩ := hit
    obtain ⟨o2, q2, c2, n2, d2⟩ := ht
    rw [← z, q2] at q1
    cases q1
    rw [c1] at c2
    exact absurd c2 (by decide)
  have hte : e ≠ t := fun z => by
    obtain ⟨o2, q2, c2, n2, d2⟩ := ht
    rw [z, q2] at ho
    cases ho
    rw [hc] at c2
    exact absurd c2 (by decide)
  have hlt : i < items.size := (Array.getElem?_eq_some_iff.mp hx).1
  have hh1 : A.in1.handled = none := hh
  have D := Draws.tuple (prog := prog) (w := w) hh1 it t hti items
  have D0 := Draws.tuple (prog := prog) (w := w) (A := A.in1) hh1 it t hti items
  have ec : ((i + 1 : Nat) : Int) = (i : Int) + 1 := by omega
  have nit : s.heap.objs.size ≠ it := let ⟨_, q, _⟩ := hit; Nat.ne_of_gt (Heap.lt_size q)
  rcases he with ⟨old, he⟩ | ⟨old, T, f, oT, he, hT, h1, h2⟩
  · refine wpAny_pyNext_enum_itemD D he ⟨hit, ht⟩ hlt hne (by simp [hne, hte]) fun y h' tk hy ho' hst' hT' hsz hk => ?_
    rw [hx] at hy
    cases hy
    exact hQ h' tk (.inr ⟨_, s.heap.objs.size, false, _, (by rw [ec]; exact ho'), hT', Nat.ne_of_gt (Heap.lt_size he), nit⟩) hst'.1 hst'.2 hT' hsz hk
  · unfold pyNext
    refine wpAny_bind (wpAny_attempt (wpAny_callSpecial?_slot (name := Str.ofString "__next__") hTy F.slot_enumerate_next
      (wpAny_call_entry F.slot_enumerate_next hTy F.entry_enumerate_next
        (en_next D0 he hT h1 h2 ⟨hit, ht⟩ hlt hne (by simp [hne, hte]) fun y h' tk hy ho' hst' hT' hsz hk => wpAny_pure ?_) (F.args_enumerate_next_1 _))))
    rw [hx] at hy
    cases hy
    exact hQ h' tk (.inr ⟨old, T, true, oT, (by rw [ec]; exact ho'), hk _ _ h1 h2 hT, h1, h2⟩) hst'.1 hst'.2 hT' hsz hk
theorem en_end {e it t : Addr} {items : Array Value} {Q : Option Value → Shared → Prop} (hh : A.handled = none) (he : EnAt s.heap e it items.size) (hit : s.heap.IsTupleIter it t items.size) (ht : s.heap.IsTuple t items)
    (hQ : ∀ h', Heap.ExtBut it s.heap h' → Q none { s with heap := h' }) : wpAny (model prog w) A (pyNext (.ref e)) Q E s := by
  obtain ⟨oe, ho, hc⟩ := he.lt
  have hTy : s.TypeIs (.ref e) "enumerate" := ⟨oe, ho, hc⟩
  have hh1 : A.in1.handled = none := hh
  unfold pyNext
  refine wpAny_bind (wpAny_attempt (wpAny_callSpecial?_slot (name := Str.ofString "__next__") hTy F.slot_enumerate_next (wpAny_call_entry F.slot_enumerate_next hTy F.entry_enumerate_next ?_ (F.args_enumerate_next_1 _))))
  show wpAny _ _ (field (.ref e) 2 >>= _) _ _ _
  rcases he with ⟨old, he⟩ | ⟨old, T, f, oT, he, hT, h1, h2⟩
  all_goals
    refine wpAny_bind (wpAny_field he rfl (x := .ref it) rfl ?_)
    refine wpAny_bind (wpAny_nextOf_tuple_end hh1 hit ht (by simp) fun h' x he' hx' => ?_)
    obtain ⟨o, ho, hcl⟩ := hx'
    refine wpAny_bind (wpAny_isInstance (T := "StopIteration") (b := true) ⟨o, ho, hcl⟩ isSubtype_stop ?_)
    exact wpAny_pure (hQ _ he')
/-- the pairs that stand: place and item -/
def EnOut (h : Heap) (items : Array Value) (acc : Array Value) (lo : Nat) : Prop := ∀ j v, acc[j]? = some v → ∃ (T : Nat) (tk : Tok) (x : Value), lo ≤ T ∧ v = .ref T ∧ items[j]? = some x ∧ h.get? T = some { cls := .type "tuple", data := .seq #[.int (j : Nat) tk, x] }
theorem en_loop {e it t S : Nat} {items : Array Value} {lo : Nat} {res : Value} {R : Result → Shared → Prop} (hh : A.handled = none) (hn : items.size ≤ sizeLine) (h₀ : Heap) (hne : e ≠ it) (hSe : S ≠ e) (hSi : S ≠ it) (hSt : S ≠ t) (l1 : h₀.objs.size ≤ e) (l2 : h₀.objs.size ≤ it) (l3 : h₀.objs.size ≤ S) :
    ∀ (k i : Nat) (s : Shared) (acc : Array Value) (c : Nat), items.size - i = k → i ≤ items.size → EnAt s.heap e it i → s.heap.IsTupleIter it t i → s.heap.IsTuple t items → s.heap.get? S = some { cls := .type "list", dict := none, data := .seq acc c, slots := #[] } → acc.size = i → EnOut s.heap items acc lo → Kp h₀ s.heap → S < lo → e < lo → it < lo → lo ≤ s.heap.objs.size →
    (∀ s' acc' c', Kp h₀ s'.heap → s'.gens = s.gens → s'.os = s.os → s'.drawn = s.drawn → s'.heap.get? S = some { cls := .type "list", dict := none, data := .seq acc' c', slots := #[] } → acc'.size = items.size → EnOut s'.heap items acc' lo → R (.ok (.ret res)) s') →
    codeAny (model prog w) A (.builtin "list.extend.loop" ⟨[.ref S, .ref e, res], []⟩) R s := by
  have hh1 : A.in1.handled = none := hh
  intro k
  induction k with
  | zero =>
    intro i s acc c hk hi he hit ht hS ha ho kp b1 b2 b3 b4 hR
    have hin : i = items.size := by omega
    subst hin
    refine codeAny_builtin F.entry_extend_loop ?_
    rw [Around.under_plainId F.plain_extend_loop _]
    show wpAny _ A.in1 (pyNext (.ref e) >>= _) _ _ s
    refine wpAny_bind (en_end hh1 he hit ht fun h' hk' => ?_)
    refine wpAny_pure (hR _ acc c (fun b o z => hk' b o (fun q => ?_) (kp b o z)) rfl rfl rfl (hk' S _ hSi hS) (by omega) fun j v hj => ?_)
    · rw [q] at z
      exact Nat.lt_irrefl _ (Nat.lt_of_lt_of_le (Heap.lt_size z) l2)
    · obtain ⟨T, tk, x, q1, q2, q3, q4⟩ := ho j v hj
      exact ⟨T, tk, x, q1, q2, q3, hk' T _ (Nat.ne_of_gt (Nat.lt_of_lt_of_le b3 q1)) q4⟩
  | succ k ih =>
    intro i s acc c hk hi he hit ht hS ha ho kp b1 b2 b3 b4 hR
    have hlt : i < items.size := by omega
    refine codeAny_builtin F.entry_extend_loop ?_
    rw [Around.under_plainId F.plain_extend_loop _]
    show wpAny _ A.in1 (pyNext (.ref e) >>= _) _ _ s
    refine wpAny_bind (en_item hh1 he hit ht (Array.getElem?_eq_getElem hlt) hne fun h' tk he' hit' ht' hT hsz hk' => ?_)
    have hS' := hk' S _ hSe hSi hS
    show wpAny _ A.in1 (updateSeq S (·.push (.ref s.heap.objs.size)) >>= _) _ _ _
    refine wpAny_bind ?_
    have oth : ∀ b o, b ≠ S → h'.get? b = some o → (h'.update S (Obj.mapSeq (·.push (.ref s.heap.objs.size)))).get? b = some o := fun b o hb z => (Heap.get?_update_other _ _ (Ne.symm hb)).trans z
    refine wpAny_updateSeq hS' rfl (wpAny_pure ⟨plainId_quiet F.plain_extend_loop _, ih (i + 1) _ (acc.push (.ref s.heap.objs.size)) _ (by omega) hlt (he'.keep (S := S) (fun o q => by rw [hS'] at q; cases q; rfl) hSe oth fun o q => ⟨_, Heap.get?_update_self _ hS' rfl⟩)
      (hit'.at fun o q => oth it o (Ne.symm hSi) q) (ht'.at fun o q => oth t o (Ne.symm hSt) q) (Heap.get?_update_self _ hS' rfl) (by rw [Array.size_push, ha]) (fun j v hj => ?_) (fun b o z => oth b o (fun q => ?_) (hk' b o (fun q => ?_) (fun q => ?_) (kp b o z))) b1 b2 b3 (by rw [Heap.size_update]; exact Nat.le_trans b4 (by rw [show h'.objs.size = _ from hsz]; exact Nat.le_succ _)) hR⟩)
      (by rw [ha]; omega) (by show (acc.push _).size ≤ sizeLine + 1; rw [Array.size_push, ha]; omega)
    · rw [Array.getElem?_push] at hj
      split at hj
      · rename_i q
        cases hj
        refine ⟨s.heap.objs.size, tk, items[i], b4, rfl, ?_, ?_⟩
        · rw [q, ha]
          exact Array.getElem?_eq_getElem hlt
        · rw [q, ha]
          exact oth _ _ (Nat.ne_of_gt (Nat.lt_of_lt_of_le b1 b4)) hT
      · obtain ⟨T, tk', x, q1, q2, q3, q4⟩ := ho j v hj
        exact ⟨T, tk', x, q1, q2, q3, oth T _ (Nat.ne_of_gt (Nat.lt_of_lt_of_le b1 q1)) (hk' T _ (Nat.ne_of_gt (Nat.lt_of_lt_of_le b2 q1)) (Nat.ne_of_gt (Nat.lt_of_lt_of_le b3 q1)) q4)⟩
    all_goals
      rw [q] at z
      exact Nat.lt_irrefl _ (Nat.lt_of_lt_of_le (Heap.lt_size z) (by assumption))
theorem nolen_en : typeLookup (.type "enumerate") "__len__" = pure none := by rw [typeLookup_type, builtinLookup_eq_fast]; kernel_rfl
theorem nohint_en : typeLookup (.type "enumerate") "__length_hint__" = pure none := by rw [typeLookup_type, builtinLookup_eq_fast]; kernel_rfl
/-- collect(enumerate(t)) -/
theorem en_collect {e it t : Nat} {items : Array Value} {Q : List Value → Shared → Prop} (hh : A.handled = none) (hn : items.size ≤ sizeLine) (h₀ : Heap) (kp : Kp h₀ s.heap) (hne : e ≠ it) (l1 : h₀.objs.size ≤ e) (l2 : h₀.objs.size ≤ it)
    (he : IsEnum s.heap e it 0 .none) (hit : s.heap.IsTupleIter it t 0) (ht : s.heap.IsTuple t items)
    (hQ : ∀ s' (acc : Array Value), Kp h₀ s'.heap → s'.gens = s.gens → s'.os = s.os → s'.drawn = s.drawn → acc.size = items.size → EnOut s'.heap items acc h₀.objs.size → Q acc.toList s') : wpAny (model prog w) A (collect (.ref e)) Q E s := by
  have hT : s.TypeIs (.ref e) "enumerate" := ⟨_, he, rfl⟩
  have le : e < s.heap.objs.size := Heap.lt_size he
  have li : it < s.heap.objs.size := let ⟨_, q, _⟩ := hit; Heap.lt_size q
  have lt : t < s.heap.objs.size := let ⟨_, q, _⟩ := ht; Heap.lt_size q
  have hSI : s.heap.objs.size ≠ e := Nat.ne_of_gt le
  unfold collect
  refine wpAny_bind (wpAny_runValue (codeAny_builtin F.entry_proto_collect ?_))
  rw [Around.under_plainId F.plain_proto_collect _]
  show wpAny _ A.in1 (newList [] >>= fun l => again (.builtin "list.__iadd__" ⟨[l, .ref e], []⟩)) _ _ s
  refine wpAny_bind (wpAny_newObj_type ?_)
  refine wpAny_pure ⟨plainId_quiet F.plain_list_iadd _, codeAny_builtin F.entry_list_iadd ?_⟩
  rw [Around.under_plainId F.plain_list_iadd _]
  have k1 : Kp s.heap (s.heap.push { cls := .type "list", data := .seq ([] : List Value).toArray }) := fun _ _ z => Heap.get?_push_of_some _ z
  have he1 : IsEnum (s.heap.push { cls := .type "list", data := .seq ([] : List Value).toArray }) e it 0 .none := k1 _ _ he
  have hT1 : Shared.TypeIs { s with heap := s.heap.push { cls := .type "list", data := .seq ([] : List Value).toArray } } (.ref e) "enumerate" := ⟨_, he1, rfl⟩
  show wpAny _ A.in1 (Builtin.List.listExtendWith (.ref s.heap.objs.size) (.ref e) (.ref s.heap.objs.size)) _ _ _
  unfold Builtin.List.listExtendWith
  refine wpAny_bind (wpAny_typeOf hT1 ?_)
  have h1 : Builtin.List.listSameRef (.ref s.heap.objs.size) (.ref e) = false := by simp [Builtin.List.listSameRef, hSI]
  have h2 : (Value.type "enumerate" == Value.type "list") = false := by decide
  have h3 : (Value.type "enumerate" == Value.type "tuple") = false := by decide
  simp only [h1, h2, h3, Bool.or_false, Bool.false_eq_true, if_false]
  refine wpAny_bind (wpAny_pyIter_enum he1 ?_)
  refine wpAny_bind (wpAny_holding ?_)
  unfold Builtin.List.listLengthHint
  refine wpAny_bind (wpAny_specialOf hT1 nolen_en ?_)
  show wpAny _ A.in1 (specialOf (Value.ref e) (Str.ofString "__length_hint__") >>= _) _ _ _
  refine wpAny_bind (wpAny_specialOf hT1 nohint_en ?_)
  refine wpAny_pure ?_
  show wpAny _ A.in1 (rule "list.extend.makes-room" >>= fun _ => Builtin.List.listTouch (.ref s.heap.objs.size) >>= fun _ =>
    again (.builtin "list.extend.loop" ⟨[.ref s.heap.objs.size, .ref e, .ref s.heap.objs.size], []⟩)) _ _ _
  refine wpAny_bind (wpAny_rule ?_)
  have hS₁ : (s.heap.push { cls := .type "list", data := .seq ([] : List Value).toArray }).get? s.heap.objs.size = some { cls := .type "list", data := .seq ([] : List Value).toArray } := Heap.get?_push_size _ rfl
  refine wpAny_bind ?_
  show wpAny _ A.in1 (updateSeq s.heap.objs.size (·.push .none) >>= fun _ => updateSeq s.heap.objs.size (·.pop)) _ _ _
  refine wpAny_bind (wpAny_updateSeq hS₁ rfl ?_)
  have hS₂ := Heap.get?_update_self (Obj.mapSeq (·.push Value.none)) hS₁ rfl
  refine wpAny_updateSeq hS₂ rfl ?_
  have hS₃ := Heap.get?_update_self (Obj.mapSeq (·.pop)) hS₂ rfl
  have oth : ∀ b o, b ≠ s.heap.objs.size → (s.heap.push { cls := .type "list", data := .seq ([] : List Value).toArray }).get? b = some o →
      (((s.heap.push { cls := .type "list", data := .seq ([] : List Value).toArray }).update s.heap.objs.size (Obj.mapSeq (·.push Value.none))).update s.heap.objs.size (Obj.mapSeq (·.pop))).get? b = some o :=
    fun b o hb q => (Heap.get?_update_other _ _ (Ne.symm hb)).trans ((Heap.get?_update_other _ _ (Ne.symm hb)).trans q)
  have hkp : Kp s.heap (((s.heap.push { cls := .type "list", data := .seq ([] : List Value).toArray }).update s.heap.objs.size (Obj.mapSeq (·.push Value.none))).update s.heap.objs.size (Obj.mapSeq (·.pop))) := fun b o z => oth b o (Nat.ne_of_lt (Heap.lt_size z)) (k1 b o z)
  have l0 : h₀.objs.size ≤ s.heap.objs.size := Nat.le_trans l1 (Nat.le_of_lt le)
  refine wpAny_pure ⟨plainId_quiet F.plain_extend_loop _, en_loop (lo := s.heap.objs.size + 1) hh hn h₀ hne (Nat.ne_of_gt le) (Nat.ne_of_gt li) (Nat.ne_of_gt lt) l1 l2 l0 items.size 0 _ _ _ rfl (Nat.zero_le _) (.inl ⟨.none, hkp _ _ he⟩) (hit.at fun o q => hkp _ _ q) (ht.at fun o q => hkp _ _ q) hS₃ rfl (fun j v hj => by simp at hj)
    (fun b o z => hkp b o (kp b o z)) (Nat.lt_succ_self _) (Nat.lt_succ_of_lt le) (Nat.lt_succ_of_lt li) (by rw [Heap.size_update, Heap.size_update, Heap.size_push]; exact Nat.le_refl _) fun s' acc' c' kp' g' o' d' hS' ha' ho' => ?_⟩
  show wpAny _ A (load s.heap.objs.size >>= _) _ _ s'
  refine wpAny_bind (wpAny_load hS' ?_)
  refine wpAny_pure (hQ s' acc' kp' g' o' d' ha' fun j v hj => ?_)
  obtain ⟨T, tk, x, q1, q2, q3, q4⟩ := ho' j v hj
  exact ⟨T, tk, x, by omega, q2, q3, q4⟩
end
/-- the address that a value is -/
def adr : Value → Addr
  | .ref a => a
  | _ => 0
theorem isA_at {K : PySem.W.Frag} {H : Hp} : ∀ {vs : List V} {ds : List PyData}, vs.length = ds.length → (∀ (j : Nat) v d, vs[j]? = some v → ds[j]? = some d → Is K H v d) → IsA K H vs ds
  | [], [], _, _ => .nil
  | [], _ :: _, h, _ => nomatch h
  | _ :: _, [], h, _ => nomatch h
  | v :: vs, d :: ds, h, g => .cons (g 0 v d rfl rfl) (isA_at (Nat.succ.inj h) fun j w e hw he => g (j + 1) w e hw he)
theorem vals_at : ∀ {vs : List V} {us : List Value}, vs.length = us.length → (∀ (j : Nat) u, us[j]? = some u → ∃ v, vs[j]? = some v ∧ RelV v u) → Vals vs us
  | [], [], _, _ => .nil
  | [], _ :: _, h, _ => nomatch h
  | _ :: _, [], h, _ => nomatch h
  | v :: vs, u :: us, h, g => by
    obtain ⟨w, e, r⟩ := g 0 u rfl
    cases e
    exact .cons r (vals_at (Nat.succ.inj h) fun j w hw => g (j + 1) w hw)
/-- pairs: place and item -/
def enD (ds : List PyData) : List PyData := ds.mapIdx fun i d => .tuple [.int (i : Nat), d]
section
variable {X : Cx}
def tSortEnum (K : PySem.W.Frag) (n : Nat) (ta : TE) : TE := fun σ H Q => ta σ H fun x H1 => ∃ a ds, x = V.ref a ∧ Is K H1 (.ref a) (.tuple ds) ∧ Srt n (enD ds) ∧
  ∀ H' p, Same H1 H' → H1 p = none → IsL K H' p ((enD ds).mergeSort (dataLe false id)) → Q (.ref p) H'
theorem pe_sortEnum {a : Expr} {ta : TE} {p p2 q pos : Pos} (n : Nat) (hu : X.A.units + 64 < cLine) (hc : X.calm = true) (hg : Gl X "sorted") (hm : X.mg "sorted" = none) (hg2 : Gl X "enumerate") (hm2 : X.mg "enumerate" = none) (ha : PE X a ta)
    (na : starEach [a] X.env = (false, eval a X.env) :: starEach [] X.env := by rfl) (hnn : n ≤ 32 := by decide) : PE X (.Call (.Name "sorted" p) [.Call (.Name "enumerate" p2) [a] [] q] [] pos) (tSortEnum X.K n ta) := by
  refine ⟨fun pins s σ H Q I h => ?_⟩
  refine Call_ (ld_blt I hg hm PyProof.Rows.boot_sorted ?_)
  refine PyProof.Rows.callWith_builtin1 (PyProof.Rows.args_cons ?_ rfl) rfl rfl
  refine Call_ (ld_blt I hg2 hm2 boot_enumerate ?_)
  refine PyProof.Rows.callWith_type1 (PyProof.Rows.args_cons (thn (ha.run pins s σ H _ I h) fun v s1 ⟨x, H1, I1, r1, q1⟩ => PyProof.Rows.args_nil ?_) na) na rfl
  obtain ⟨l, ds, rfl, hq, hd, q1⟩ := q1
  cases r1
  obtain ⟨b, xs, e, hl, hA⟩ := hq.tup_ex
  cases e
  obtain ⟨its, rv, tp, hz⟩ := I1.tuple hl
  refine enum_tup tp fun h' he hit hk => PyProof.Rows.args_nil ?_
  refine sorted_gen (s := { s1 with heap := h' }) fun E' => ?_
  have hn : its.toArray.size ≤ sizeLine := by rw [List.size_toArray, ← rv.length]; exact hz
  refine en_collect (s := { s1 with heap := h' }) (A := X.A.in1) (by simp [I1.ok.hd hc]) hn s1.heap hk (Nat.succ_ne_self _) (Nat.le_succ _) (Nat.le_refl _) he hit ((show s1.heap.IsTuple l its.toArray from tp).at fun o z => hk _ _ z) fun s' acc kp g o d hac hout => ?_
  have es : s' = { s1 with heap := s'.heap, toks := s'.toks } := by
    cases s'
    cases s1
    cases g
    cases o
    cases d
    rfl
  have J0 : Inv X pins σ H1 { s1 with heap := s'.heap, toks := s'.toks } := I1.kept (t' := s'.toks) kp
  have hlen : acc.size = xs.length := by rw [hac, List.size_toArray, ← rv.length]
  have get : ∀ (j : Nat) b, (acc.toList.map adr)[j]? = some b → s1.heap.objs.size ≤ b ∧ acc[j]? = some (Value.ref b) ∧ ∃ tk u v, its[j]? = some u ∧ xs[j]? = some v ∧ RelV v u ∧ s'.heap.get? b = some { cls := .type "tuple", data := .seq #[.int (j : Nat) tk, u] } := by
    intro j b hj
    rw [List.getElem?_map, Array.getElem?_toList] at hj
    cases hv : acc[j]? with
    | none => rw [hv] at hj; cases hj
    | some w =>
      rw [hv] at hj
      obtain ⟨T, tk, u, q1, q2, q3, q4⟩ := hout j w hv
      subst q2
      cases hj
      have q3' : its[j]? = some u := by simpa using q3
      have hjx : j < xs.length := by rw [rv.length]; exact (List.getElem?_eq_some_iff.mp q3').1
      obtain ⟨u', hu', r⟩ := rv.get (List.getElem?_eq_getElem hjx)
      rw [q3'] at hu'
      cases hu'
      exact ⟨q1, rfl, tk, u, _, q3', List.getElem?_eq_getElem hjx, r, q4⟩
  have nd : (acc.toList.map adr).Nodup := by
    rw [List.nodup_iff_pairwise_ne, List.pairwise_iff_getElem]
    intro i j hi hj hij e
    obtain ⟨_, _, tk, u, v, _, _, _, g1⟩ := get i _ (List.getElem?_eq_getElem hi)
    obtain ⟨_, _, tk', u', v', _, _, _, g2⟩ := get j _ (List.getElem?_eq_getElem hj)
    rw [e, g2] at g1
    injection g1 with g1
    injection g1 with _ _ g1
    injection g1 with g1
    injection g1 with g1
    injection g1 with g1
    injection g1 with g1
    injection g1 with g1
    omega
  obtain ⟨H2, J, gr, ta'⟩ := DX.takeT (P := fun b vs => ∃ (j : Nat) (v : V), (acc.toList.map adr)[j]? = some b ∧ vs = [.int (j : Nat), v] ∧ xs[j]? = some v) I1 (acc.toList.map adr) H1 J0 nd fun b hb => by
    obtain ⟨j, hj⟩ := List.mem_iff_getElem?.mp hb
    obtain ⟨q1, _, tk, u, v, q2, q3, q4, q5⟩ := get j b hj
    exact ⟨q1, I1.hok.fresh q1, [.int (j : Nat), v], ⟨j, v, hj, rfl, q3⟩, fun H3 => ⟨(by show 2 ≤ sizeLine; decide), [Value.int (j : Nat) tk, u], .cons ⟨_, rfl⟩ (.cons q4 .nil), ⟨_, q5, rfl, 0, rfl⟩⟩⟩
  have sm : Same H1 H2 := gr
  have hI : IsA X.K H2 ((acc.toList.map adr).map V.ref) (enD ds) := by
    refine isA_at (by rw [List.length_map, List.length_map, Array.length_toList, hlen, hA.length]; unfold enD; rw [List.length_mapIdx]) fun j v d hv hd => ?_
    rw [List.getElem?_map] at hv
    cases hb : (acc.toList.map adr)[j]? with
    | none => rw [hb] at hv; cases hv
    | some b =>
      rw [hb] at hv
      cases hv
      obtain ⟨vs, ⟨j', v', e1, e2, e3⟩, hH⟩ := ta' b (List.mem_of_getElem? hb)
      have ejj : j = j' := (List.getElem?_inj (List.getElem?_eq_some_iff.mp hb).1 nd).mp (hb.trans e1.symm)
      subst ejj
      subst e2
      obtain ⟨d', hd', hdv⟩ := hA.get' e3
      unfold enD at hd
      rw [List.getElem?_mapIdx, hd'] at hd
      cases hd
      exact Is.new hH (.cons (.int _) (.cons (hdv.same sm) .nil))
  have hV : Vals ((acc.toList.map adr).map V.ref) acc.toList := by
    refine vals_at ?_ fun j w hw => ?_
    · rw [List.length_map, List.length_map]
    · have hw' : acc[j]? = some w := by rw [← Array.getElem?_toList]; exact hw
      obtain ⟨T, tk, u, q1, q2, q3, q4⟩ := hout j w hw'
      subst q2
      refine ⟨V.ref T, ?_, rfl⟩
      rw [List.getElem?_map, List.getElem?_map, hw]
      rfl
  rw [es]
  exact sorts_end (s := { s1 with heap := s'.heap, toks := s'.toks }) J (fun _ _ z => z) rfl rfl hI hV hd hu hnn fun H' p sm' hn hL => q1 H' p (fun b o z => sm' b o (sm b o z)) (sm.free hn) hL
end
end UG
end
section
/-! Unitgrids, rules that the layer lacks: set(xs), xs a list of nested tuples; its sorted list, its length. -/
namespace UG
open PySem PySem.Spec PyProof.Rows PySem.W L2
section
variable {P : Program} {w : World} {A : Around} {E : Value → Shared → Prop} {s : Shared}
/-- few keys: their list is in D -/
def Few (ks : List Itm) : Prop := ∃ D : List NestedKey, D.length < 63 ∧ ∀ e ∈ ks, e.1 ∈ D
theorem Few.len {ks L : List Itm} {i : Nat} (f : Few ks) (m : Met ks i L) (nd : (L.map Prod.fst).Nodup) : L.length + 1 < 64 := by
  obtain ⟨D, h1, h2⟩ := f
  have := nd.length_le_of_subset (l₂ := D) fun k hk => by
    obtain ⟨e, he, rfl⟩ := List.mem_map.mp hk
    exact h2 e (m.1 e he)
  rw [List.length_map] at this
  omega
theorem It1.keep {h h' : Heap} {k : NestedKey} {b : Addr} (x : It1 h k b) (g : Kp h h') : It1 h' k b := x.at fun c o _ _ hc _ => g c o hc
/-- a set stands there, of the keys of the first i -/
def HasSet (w : World) (h : Heap) (S : Addr) (ks : List Itm) (i : Nat) : Prop := ∃ L es ep t, SetN w h S L es ep t ∧ Met ks i L
/-- set.update's loop over the list ks -/
theorem fill_loop {S I l : Addr} {items : Array Value} (ks : List Itm) (hI : S ≠ I) (hl : S ≠ l) (hli : l ≠ I) (hit : items.toList = ks.map fun e => Value.ref e.2) (few : Few ks) (h0 : Heap) (hk : ∀ e ∈ ks, It1 h0 e.1 e.2) (hS0 : h0.objs.size ≤ S) (hI0 : h0.objs.size ≤ I) (hh : A.handled = none) (hu : A.units + 16 < cLine)
    {R : Result → Shared → Prop} : ∀ (k i : Nat) (s : Shared), ks.length - i = k → i ≤ ks.length → s.heap.IsListIter I l i → s.heap.IsList l items → Kp h0 s.heap → HasSet w s.heap S ks i →
      (∀ s', s'.gens = s.gens → s'.os = s.os → s'.drawn = s.drawn → Kp h0 s'.heap → HasSet w s'.heap S ks ks.length → R (.ok (.ret .none)) s') →
      codeAny (model P w) A (.builtin "set.update.loop" ⟨[.ref S, .ref I], []⟩) R s := by
  have hsz : items.size = ks.length := by rw [← Array.length_toList, hit, List.length_map]
  have hh1 : A.in1.handled = none := hh
  have out : ∀ {b : Addr}, h0.objs.size ≤ b → ∀ c o, h0.get? c = some o → c ≠ b := fun {b} hb c o z e => Nat.lt_irrefl _ (Nat.lt_of_lt_of_le (Heap.lt_size z) (e ▸ hb))
  have get : ∀ i : Nat, items[i]? = (ks[i]?).map fun e => Value.ref e.2 := fun i => by rw [← Array.getElem?_toList, hit, List.getElem?_map]
  have keepS : ∀ {h h' : Heap} {i : Nat}, Kp h0 h' → (∀ o, h.get? S = some o → h'.get? S = some o) → HasSet w h S ks i → HasSet w h' S ks i := fun kp e ⟨L, es, ep, t, R, m⟩ => by
    obtain ⟨o, ho, r⟩ := R.ob
    exact ⟨L, es, ep, t, ⟨⟨o, e o ho, r⟩, R.ents, R.tab, R.apart, fun e he => (hk e (m.1 e he)).keep kp, R.plain, R.led, R.room⟩, m⟩
  intro k
  induction k with
  | zero =>
    intro i s hk' hi hit' hl' kp hs hR
    have hin : i = ks.length := by omega
    refine codeAny_builtin F.entry_set_update_loop ?_
    rw [Around.under_plainId F.plain_set_update_loop _]
    show wpAny _ A.in1 (pyNext (.ref I) >>= _) _ _ s
    refine wpAny_bind (wpAny_pyNext_list_end hh1 hit' hl' (by rw [get, List.getElem?_eq_none (by omega)]; rfl) fun h' hx => ?_)
    show wpAny _ A.in1 (ret Value.none) _ _ _
    have kp' : Kp h0 h' := fun b o z => hx b o (out hI0 b o z) (kp b o z)
    exact wpAny_pure (hR _ rfl rfl rfl kp' (hin ▸ keepS kp' (fun o z => hx S o hI z) hs))
  | succ k ih =>
    intro i s hk' hi hit' hl' kp hs hR
    have hlt : i < ks.length := by omega
    obtain ⟨e, he⟩ : ∃ e, ks[i]? = some e := ⟨_, List.getElem?_eq_getElem hlt⟩
    refine codeAny_builtin F.entry_set_update_loop ?_
    rw [Around.under_plainId F.plain_set_update_loop _]
    show wpAny _ A.in1 (pyNext (.ref I) >>= _) _ _ s
    refine wpAny_bind (wpAny_pyNext_list_item hit' hl' (x := .ref e.2) (by rw [get, he]; rfl) fun h' hit2 hx => ?_)
    have kp' : Kp h0 h' := fun b o z => hx.extBut b o (out hI0 b o z) (kp b o z)
    obtain ⟨L, es, ep, t, R', m⟩ := keepS kp' (fun o z => hx.extBut S o hI z) hs
    have hx1 : It1 h' e.1 e.2 := (hk e (List.mem_of_getElem? he)).keep kp'
    show wpAny _ A.in1 (holding [Value.ref e.2] (setAdd S (.ref e.2)) >>= _) _ _ _
    refine wpAny_bind (wpAny_holding ?_)
    unfold setAdd
    refine wpAny_holding ?_
    refine wpAny_bind ((nestedKind P w).pyHash (k := e.1) (by show A.units + 1 + 8 < cLine; omega) ⟨hx1.1, hx1.2.1⟩ ?_)
    refine more_at (s := { s with heap := h', toks := s.toks + (nestedKind P w).draws e.1 }) R' hx1 (by show A.units + 1 + 8 < cLine; omega) (few.len m R'.apart) fun b h2 L' es' ep' t' sb R2 c1 c2 => ?_
    have kp2 : Kp h0 h2 := fun c o z => (sb.2 c (out hS0 c o z)).trans (kp' c o z)
    refine wpAny_pure ⟨plainId_quiet F.plain_set_update_loop _, ih (i + 1) _ (by omega) hlt (hit2.at fun o z => (sb.2 I (Ne.symm hI)).trans z) (hl'.at fun o z => (sb.2 l (Ne.symm hl)).trans (hx.extBut l o hli z)) kp2 ⟨L', es', ep', t', R2, m.next he c1 c2⟩ fun s' g1 g2 g3 => hR s' g1 g2 g3⟩
end
end UG
end
section
/-! Unitgrids, rules that the layer lacks: set(xs), xs a list of nested tuples: the call, sorted, len. -/
namespace UG
open PySem PySem.Spec PyProof.Rows PySem.W L2
section
variable {P : Program} {w : World} {A : Around} {E : Value → Shared → Prop} {s : Shared}
/-- an empty set, new -/
abbrev newSet (w : World) : Obj := { cls := .type "set", dict := none, data := .set #[] 0 (.fresh 0 0 (!w.params.followText "set-order")) }
theorem hasSet_new {h : Heap} {S : Addr} (ks : List Itm) (ho : h.get? S = some (newSet w)) : HasSet w h S ks 0 := by
  refine ⟨[], #[], 0, _, ⟨⟨_, ho, ⟨rfl, rfl, rfl⟩, rfl⟩, rfl, ⟨List.Pairwise.nil, rfl, rfl, .inl rfl, fun x hx => (by cases hx), fun i h j hi => (by simp [hs] at hi)⟩, List.nodup_nil, fun p hp => (by cases hp), rfl, ?_, ?_⟩, ⟨fun e he => (by cases he), fun k => by simp⟩⟩
  · show _ ∨ (!w.params.followText "set-order") = true
    cases w.params.followText "set-order"
    · exact .inr rfl
    · exact .inl rfl
  · show 0 * 5 < 7 * 3
    decide
set_option maxHeartbeats 6400000 in
theorem call_set {l : Addr} {items : Array Value} (ks : List Itm) {Q : Value → Shared → Prop} (hh : A.handled = none) (hl : s.heap.IsList l items) (hit : items.toList = ks.map fun e => Value.ref e.2) (hk : ∀ e ∈ ks, It1 s.heap e.1 e.2) (few : Few ks) (hu : A.units + 32 < cLine)
    (h : ∀ (h' : Heap) (tk : Nat), HasSet w h' s.heap.objs.size ks ks.length → Kp s.heap h' → Q (.ref s.heap.objs.size) { s with heap := h', toks := tk }) :
    wpAny (model P w) A (call (.type "set") [.ref l]) Q E s := by
  obtain ⟨c, tl, hmro⟩ := F.called_set.mro
  have hmade := F.called_set.made
  have hsub := F.called_set.sub
  refine wpAny_call (codeAny_of_tree ?_)
  show wpAny _ _ (callAny (.type "set") _) _ _ _
  refine wpAny_pure ⟨Code.quiet_builtin _ (by decide +kernel), codeAny_builtin F.entry_type_call ?_⟩
  rw [Around.under_plain (weight_type_call_type "set" [.ref l] []) rfl]
  have h1 := F.called_set.notType
  have h2 := F.called_set.canCreate
  have hct := F.typeCall_set_1 (.ref l)
  repeat (any_goals (first | assumption | wp_step))
  refine codeAny_mono (code_set_led1 (.ref l) (E := E) (Q₁ := fun obj s₁ => obj = .ref s.heap.objs.size ∧ s₁ = { s with heap := s.heap.push (newSet w) }) ⟨rfl, rfl⟩) fun r s₁ hr => ?_
  cases r with
  | error e => exact hr
  | ok fl =>
    cases fl with
    | ret obj =>
      obtain ⟨rfl, rfl⟩ := hr
      have hS : (s.heap.push (newSet w)).get? s.heap.objs.size = some (newSet w) := Heap.get?_push_size _ rfl
      have hT : Shared.TypeIs { s with heap := s.heap.push (newSet w) } (.ref s.heap.objs.size) "set" := ⟨_, hS, rfl⟩
      have hli := F.called_set.init.lookup
      have hbi := F.called_set.init.bind (.ref s.heap.objs.size)
      repeat (any_goals (first | assumption | wp_step))
      refine codeAny_mono (codeAny_call_builtin (R := wants (fun r s₂ => r = .none ∧ ∃ h' tk, s₂ = { s with heap := h', toks := tk } ∧ HasSet w h' s.heap.objs.size ks ks.length ∧ Kp s.heap h') E) F.called_set.init.plain F.entry_set_init (check_set_init_1 hT ?_)) fun r₂ s₂ hr₂ => ?_
      · obtain ⟨ol, hol, hcl, nl, hdl⟩ := hl
        obtain ⟨ocls, odict, odata, oslots⟩ := ol
        simp only at hcl hdl
        subst hcl
        subst hdl
        have k1 : Kp s.heap (s.heap.push (newSet w)) := fun _ _ z => Heap.get?_push_of_some _ z
        have hol' := k1 _ _ hol
        have hsls := F.sub_list_set
        have hslf := F.sub_list_frozenset
        have hne : (Value.type "list" == Value.type "dict") = false := by decide
        have hl1 : (s.heap.push (newSet w)).IsList l items := ⟨_, hol', rfl, nl, rfl⟩
        unfold Builtin.«set.__init__» noKeywords Builtin.Frozenset.updateFrom
        generalize hPI : pyIter = PI
        wp_walk
        subst hPI
        refine wpAny_pyIter_list hl1 ?_
        refine wpAny_bind (wpAny_runValue ?_)
        have hlS : l < s.heap.objs.size := Heap.lt_size hol
        have hz1 : (s.heap.push (newSet w)).objs.size = s.heap.objs.size + 1 := Heap.size_push ..
        refine fill_loop (S := s.heap.objs.size) (I := (s.heap.push (newSet w)).objs.size) ks (by rw [hz1]; exact Nat.ne_of_lt (Nat.lt_succ_self _)) (Nat.ne_of_gt hlS) (by rw [hz1]; exact Nat.ne_of_lt (Nat.lt_succ_of_lt hlS)) hit few s.heap hk (Nat.le_refl _) (by rw [hz1]; exact Nat.le_succ _) (by simp [hh]) (by simp; omega) ks.length 0 _ rfl (Nat.zero_le _) ⟨_, Heap.get?_push_size _ rfl, rfl, rfl⟩ (hl1.push _) (fun b o z => Heap.get?_push_of_some _ (k1 b o z)) (hasSet_new ks (Heap.get?_push_of_some _ hS)) fun s' g1 g2 g3 kp' hs' => ?_
        obtain ⟨h', gs, d', tk', os'⟩ := s'
        cases g1
        cases g2
        cases g3
        show wpAny _ _ _ _ _ _
        refine wpAny_pure ?_
        show wpAny _ _ (ret Value.none) _ _ _
        exact wpAny_pure ⟨rfl, h', tk', rfl, hs', kp'⟩
      · cases r₂ with
        | error e => exact hr₂
        | ok fl₂ =>
          cases fl₂ with
          | ret r =>
            obtain ⟨rfl, h', tk, rfl, hs', kp'⟩ := hr₂
            repeat (any_goals (first | assumption | wp_step))
            exact h _ _ hs' kp'
          | _ => exact hr₂.elim
    | _ => exact hr.elim
end
end UG
end
section
/-! Unitgrids, rules that the layer lacks: set(xs), xs a list of nested tuples: the rules. -/
namespace UG
open PySem PySem.Spec PyProof.Rows PySem.W L2
/-- a set of these items, as an object -/
def SetO (w : World) (S : Addr) (L : List Itm) : HO :=
  .ext fun h => ∃ o es ep t, h.get? S = some o ∧ o.ExactSet ∧ o.data = .set es ep t ∧ es.toList = L.map (ent w) ∧ TabOk t (hs w L) ∧ (L.map Prod.fst).Nodup ∧ t.plain = true ∧ (w.params.followText "set-order" = true ∨ t.led = true) ∧ L.length * 5 < t.mask * 3
/-- at S stands a set of these data -/
def IsS (w : World) (K : PySem.W.Frag) (H : Hp) (S : Addr) (ds : List PyData) : Prop :=
  ∃ L : List Itm, H S = some (SetO w S L) ∧ L.map Prod.fst = ds.map nk ∧ IsA K H (L.map fun e => V.ref e.2) ds
theorem IsS.same {w : World} {K : PySem.W.Frag} {H H' : Hp} {S : Addr} {ds : List PyData} (s : Same H H') (h : IsS w K H S ds) : IsS w K H' S ds :=
  let ⟨L, e, h1, h2⟩ := h; ⟨L, s _ _ e, h1, h2.same s⟩
/-- data that may be a set's items -/
def Key1 (d : PyData) : Prop := (∃ ds, d = .tuple ds) ∧ (nk d).depth ≤ 8 ∧ dry (nk d) = true
section
variable {X : Cx}
theorem setO_ok {P : Program} {w : World} {H : Hp} {h : Heap} {S : Addr} {ks L : List Itm} {es : Array (Int × Value)} {ep : Nat} {t : SetTable} (R : SetN w h S L es ep t) : ObjOk P w H h S (SetO w S L) := by
  obtain ⟨o, ho, hx, hd⟩ := R.ob
  refine ⟨⟨o, es, ep, t, ho, hx, hd, R.ents, R.tab, R.apart, R.plain, R.led, R.room⟩, ⟨o, ho⟩, fun h1 h2 ⟨o, es, ep, t, e, r⟩ k => ⟨o, es, ep, t, k o e, r⟩⟩
/-- set(xs) -/
def rSetD (w : World) (K : PySem.W.Frag) : List V → Hp → VK → Prop := fun xs H Q => ∃ a ds, xs = [.ref a] ∧ IsL K H a ds ∧ (∀ d ∈ ds, Key1 d) ∧ (∃ D : List NestedKey, D.length < 63 ∧ ∀ d ∈ ds, nk d ∈ D) ∧
  ∀ H' S ds', Same H H' → IsS w K H' S ds' → (ds'.map nk).Nodup → (∀ d ∈ ds', d ∈ ds) → (∀ d ∈ ds, nk d ∈ ds'.map nk) → Q (.ref S) H'
theorem items_of {pins : List (Addr × Obj)} {σ : L2.St} {H : Hp} {s : Shared} (I : Inv X pins σ H s) : ∀ {xs : List V} {ds : List PyData} {us : List Value}, IsA X.K H xs ds → Vals xs us → (∀ d ∈ ds, Key1 d) →
    ∃ ks : List Itm, us = (ks.map fun e => Value.ref e.2) ∧ ks.map Prod.fst = ds.map nk ∧ xs = (ks.map fun e => V.ref e.2) ∧ (∀ e ∈ ks, It1 s.heap e.1 e.2) ∧ ∀ e ∈ ks, ∃ d ∈ ds, nk d = e.1 ∧ Is X.K H (.ref e.2) d
  | _, _, _, .nil, .nil, _ => ⟨[], rfl, rfl, rfl, (fun _ h => nomatch h), (fun _ h => nomatch h)⟩
  | _, _, _, .cons (v := v) (d := d) h a, .cons r t, g => by
    obtain ⟨ks, e1, e2, e3, e4, e5⟩ := items_of I a t fun d hd => g d (List.mem_cons_of_mem _ hd)
    obtain ⟨⟨ds, rfl⟩, g2, g3⟩ := g d List.mem_cons_self
    obtain ⟨b, ys, rfl, _, _⟩ := id h.tup_ex
    cases r
    refine ⟨(nk (.tuple ds), b) :: ks, by rw [e1]; rfl, by rw [List.map_cons, e2]; rfl, by rw [e3]; rfl, fun e he => ?_, fun e he => ?_⟩
    · rcases List.mem_cons.mp he with z | he
      · rw [z]; exact ⟨Is.nested I h rfl, g2, g3⟩
      · exact e4 e he
    · rcases List.mem_cons.mp he with z | he
      · rw [z]; exact ⟨_, List.mem_cons_self, rfl, h⟩
      · obtain ⟨d, h1, h2⟩ := e5 e he
        exact ⟨d, List.mem_cons_of_mem _ h1, h2⟩
theorem data_of {K : PySem.W.Frag} {H : Hp} {ds : List PyData} : ∀ {L : List Itm}, (∀ e ∈ L, ∃ d ∈ ds, nk d = e.1 ∧ Is K H (.ref e.2) d) → ∃ ds', L.map Prod.fst = ds'.map nk ∧ IsA K H (L.map fun e => V.ref e.2) ds' ∧ ∀ d ∈ ds', d ∈ ds
  | [], _ => ⟨[], rfl, .nil, (fun _ h => nomatch h)⟩
  | e :: L, g => by
    obtain ⟨d, h1, h2, h3⟩ := g e List.mem_cons_self
    obtain ⟨ds', e1, e2, e3⟩ := data_of fun e he => g e (List.mem_cons_of_mem _ he)
    refine ⟨d :: ds', by rw [List.map_cons, List.map_cons, e1, h2], .cons h3 e2, fun z hz => ?_⟩
    rcases List.mem_cons.mp hz with rfl | hz
    · exact h1
    · exact e3 z hz
theorem call_setD (hc : X.calm = true) (hu : X.A.units + 64 < cLine) : CallR X (.type "set") (rSetD X.w X.K) := by
  intro pins s σ H xs us Q I r h
  obtain ⟨a, ds, rfl, ⟨ys, hl, hA⟩, hkey, ⟨D, hD1, hD2⟩, q⟩ := h
  rw [Vals.ref1 r]
  obtain ⟨its, rv, hp, hz⟩ := I.list (SqL.of hl)
  obtain ⟨ks, e1, e2, e3, e4, e5⟩ := items_of I hA rv hkey
  have hmem : ∀ e ∈ ks, e.1 ∈ ds.map nk := fun e he => by rw [← e2]; exact List.mem_map.mpr ⟨e, he, rfl⟩
  refine call_set (items := its.toArray) ks (I.ok.hd hc) hp.isList (by simpa using e1) e4 ⟨D, hD1, fun e he => ?_⟩ (by omega) fun h' tk ⟨L, es, ep, t, R, m⟩ kp => ?_
  · obtain ⟨d, hd, e⟩ := List.mem_map.mp (hmem e he)
    rw [← e]
    exact hD2 d hd
  · have hn : H s.heap.objs.size = none := I.hok.fresh (Nat.le_refl _)
    have J : Inv X pins σ (upd H s.heap.objs.size (SetO X.w s.heap.objs.size L)) { s with heap := h', toks := tk } := I.laid kp (Nat.le_refl _) (setO_ok (ks := ks) R)
    obtain ⟨ds', f1, f2, f3⟩ := data_of (ds := ds) (L := L) fun e he => e5 e (m.1 e he)
    refine ⟨.ref _, _, J, rfl, q _ _ ds' (same_upd hn) ⟨L, upd_same, f1, f2.same (same_upd hn)⟩ (by rw [← f1]; exact R.apart) f3 fun d hd => ?_⟩
    rw [← f1, m.2, List.take_length, e2]
    exact List.mem_map.mpr ⟨d, hd, rfl⟩
/-- what is known of a set, back on the heap -/
theorem IsS.back {pins : List (Addr × Obj)} {σ : L2.St} {H : Hp} {s : Shared} (I : Inv X pins σ H s) {S : Addr} {L : List Itm} (e : H S = some (SetO X.w S L)) : ∃ o es ep t, s.heap.get? S = some o ∧ o.ExactSet ∧ o.data = .set es ep t ∧ es.toList = L.map (ent X.w) ∧ TabOk t (hs X.w L) ∧ (L.map Prod.fst).Nodup ∧ t.plain = true ∧ (X.w.params.followText "set-order" = true ∨ t.led = true) ∧ L.length * 5 < t.mask * 3 :=
  (show ObjOk X.prog X.w H s.heap S (SetO X.w S L) from I.hok S _ e).1
theorem fits_of {L : List Itm} {w : World} {es : Array (Int × Value)} {t : SetTable} (h : es.toList = L.map (ent w)) (T : TabOk t (hs w L)) (r : L.length * 5 < t.mask * 3) : t.fits es.size = true ∧ es.size < 77 := by
  have h1 := T.sz
  rw [hs_len] at h1
  have h2 := ents_size h
  unfold SetTable.fits SetTable.fill
  rw [T.dm, Bool.and_eq_true, beq_iff_eq, decide_eq_true_eq]
  refine ⟨(show t.place.size = es.size ∧ t.place.size + 0 ≤ t.mask by omega), ?_⟩
  rcases T.mok with e | e | e <;> rw [e] at r <;> omega
theorem perm_back {α β : Type} (f : α → β) : ∀ {M out : List β}, M.Perm out → ∀ L : List α, L.map f = M → ∃ zs : List α, zs.Perm L ∧ out = zs.map f := by
  intro M out p
  induction p with
  | nil =>
    intro L e
    exact ⟨L, .refl _, e.symm⟩
  | @cons x l1 l2 _ ih =>
    intro L e
    cases L with
    | nil => cases e
    | cons y L =>
      obtain ⟨e1, e2⟩ := List.cons.inj e
      obtain ⟨zs, h1, h2⟩ := ih L e2
      exact ⟨y :: zs, h1.cons y, by rw [List.map_cons, e1, h2]⟩
  | swap x y l =>
    intro L e
    match L, e with
    | z1 :: z2 :: L, e =>
      obtain ⟨e1, e2⟩ := List.cons.inj e
      obtain ⟨e3, e4⟩ := List.cons.inj e2
      exact ⟨z2 :: z1 :: L, .swap z1 z2 L, by rw [List.map_cons, List.map_cons, e1, e3, e4]⟩
  | trans _ _ ih1 ih2 =>
    intro L e
    obtain ⟨z1, h1, h2⟩ := ih1 L e
    obtain ⟨z2, h3, h4⟩ := ih2 z1 h2.symm
    exact ⟨z2, h3.trans h1, h4⟩
theorem isA_zip {K : PySem.W.Frag} {H : Hp} : ∀ {L : List Itm} {ds : List PyData}, IsA K H (L.map fun e => V.ref e.2) ds → ∃ bs : List (Itm × PyData), bs.map Prod.fst = L ∧ bs.map Prod.snd = ds ∧ ∀ b ∈ bs, Is K H (.ref b.1.2) b.2
  | [], ds, h => by
    cases h
    exact ⟨[], rfl, rfl, fun _ h => nomatch h⟩
  | e :: L, ds, h => by
    cases h with
    | cons h1 h2 =>
      obtain ⟨bs, e1, e2, e3⟩ := isA_zip h2
      refine ⟨(e, _) :: bs, by rw [List.map_cons, e1], by rw [List.map_cons, e2], fun b hb => ?_⟩
      rcases List.mem_cons.mp hb with z | hb
      · rw [z]; exact h1
      · exact e3 b hb
theorem isA_unzip {K : PySem.W.Frag} {H : Hp} : ∀ {bs : List (Itm × PyData)}, (∀ b ∈ bs, Is K H (.ref b.1.2) b.2) → IsA K H (bs.map fun b => V.ref b.1.2) (bs.map Prod.snd)
  | [], _ => .nil
  | b :: bs, h => .cons (h b List.mem_cons_self) (isA_unzip fun c hc => h c (List.mem_cons_of_mem _ hc))
theorem vals_same : ∀ bs : List (Itm × PyData), Vals (bs.map fun b => V.ref b.1.2) (bs.map fun b => Value.ref b.1.2)
  | [] => .nil
  | b :: bs => .cons rfl (vals_same bs)
/-- sorted(S) -/
def rSortS (w : World) (K : PySem.W.Frag) (n : Nat) : List V → Hp → VK → Prop := fun xs H Q => ∃ a ds, xs = [.ref a] ∧ IsS w K H a ds ∧ (∀ ds' : List PyData, ds'.Perm ds → Srt n ds') ∧
  ∀ H' p (ds' : List PyData), Same H H' → ds'.Perm ds → IsL K H' p (ds'.mergeSort (dataLe false id)) → Q (.ref p) H'
theorem cr_sortS (n : Nat) (hc : X.calm = true) (hu : X.A.units + 64 < cLine) (hnn : n ≤ 32 := by decide) : CallR X (.builtin "sorted") (rSortS X.w X.K n) := by
  intro pins s σ H vs us Q I r h
  obtain ⟨a, ds, rfl, ⟨L, hS, h1, hA⟩, hd, q⟩ := h
  rw [Vals.ref1 r]
  obtain ⟨o, es, ep, t, ho, hx, hdt, he, T, nd, pl, ld, rm⟩ := IsS.back I hS
  obtain ⟨hf, hz⟩ := fits_of he T rm
  refine sorted_gen fun E' => ?_
  refine collect_set (A := X.A.in1) (by simp [I.ok.hd hc]) ⟨o, ho, hx.1, hdt⟩ hf (by unfold scanBound; omega) T.ris ld fun s1 out k1 hz1 g1 o1 pm => ?_
  obtain ⟨bs, b1, b2, b3⟩ := isA_zip hA
  have hes : (bs.map fun b => Value.ref b.1.2) = es.toList.map (·.2) := by
    rw [he, ← b1, List.map_map, List.map_map]
    rfl
  obtain ⟨zs, z1, z2⟩ := perm_back (fun b : Itm × PyData => Value.ref b.1.2) pm.symm bs hes
  have hA' : IsA X.K H (zs.map fun b => V.ref b.1.2) (zs.map Prod.snd) := isA_unzip fun b hb => b3 b (z1.mem_iff.mp hb)
  have hp : (zs.map Prod.snd).Perm ds := by
    rw [← b2]
    exact z1.map _
  rw [z2]
  exact sorts_end I k1 g1 o1 hA' (vals_same zs) (hd _ hp) hu hnn fun H' p sm hn hL => q H' p _ sm hp hL
/-- len(S) -/
def rLenS (w : World) (K : PySem.W.Frag) : List V → Hp → VK → Prop := fun xs H Q => ∃ a ds, xs = [.ref a] ∧ IsS w K H a ds ∧ Q (.int (ds.length : Nat)) H
theorem call_lenS : CallR X (.builtin "len") (rLenS X.w X.K) := by
  intro pins s σ H vs us Q I r h
  obtain ⟨a, ds, rfl, ⟨L, hS, h1, hA⟩, q⟩ := h
  rw [Vals.ref1 r]
  obtain ⟨o, es, ep, t, ho, hx, hdt, he, T, nd, pl, ld, rm⟩ := IsS.back I hS
  obtain ⟨hf, hz⟩ := fits_of he T rm
  have hlen : es.size = ds.length := by
    rw [ents_size he]
    have := hA.length
    rw [List.length_map] at this
    exact this
  exact call_len_set ho hx hdt hf (by omega) ⟨.int (ds.length : Nat), H, I.tok _, ⟨_, by rw [hlen]⟩, q⟩
end
end UG
end
section
/-! Unitgrids, the law's lots. -/
namespace UG
open PySem PySem.Spec PyProof.Rows L2 RZ UM UL
open PySem.W (Datum DatumOrd Tup)
theorem lt_clt (x y : C) : DatumOrd.lt x y = true ↔ clt x y := by
  show (if x.1 = y.1 then decide (x.2 < y.2) else decide (x.1 < y.1)) = true ↔ _
  unfold clt
  by_cases h1 : x.1 = y.1
  · rw [if_pos h1, decide_eq_true_eq]
    omega
  · rw [if_neg h1, decide_eq_true_eq]
    omega
theorem ixN_last (n : Nat) : ixN (n + 1) (-1) = some n := by
  unfold ixN
  rw [if_neg (by omega), if_pos (by omega)]
  congr 1
  omega
theorem fits_nil (c : C) : fits [] c = true := rfl
theorem fits_last {S : List C} {z : C} (h : S.getLast? = some z) (c : C) : fits S c = decide (clt z c) := by unfold fits; rw [h]
def lotS (cells : List C) (S : List C) : List (List C) := (cells.filter (fits S)).map fun c => S ++ [c]
theorem lotS_len (cells S : List C) : (lotS cells S).length ≤ cells.length := by
  unfold lotS
  rw [List.length_map]
  exact List.length_filter_le _ _
theorem lots_len (cells : List C) : ∀ k, (lots cells k).length ≤ cells.length ^ k
  | 0 => by simp [lots]
  | k + 1 => by
    rw [Nat.pow_succ]
    exact Nat.le_trans (flat_len (lotS cells) (lotS_len cells) _) (Nat.mul_le_mul_right _ (lots_len cells k))
def lotR (cells : List C) (m : Nat) : List (List PyData) := (List.range m).map fun k => (lots cells k).map lot
theorem lotR_flat (cells : List C) : ∀ m, (lotR cells (m + 1)).flatten = (lotsTo cells m).map lot
  | 0 => by simp [lotR, lotsTo]
  | m + 1 => by
    have := lotR_flat cells m
    unfold lotR at this ⊢
    rw [List.range_succ, List.map_append, List.flatten_append, this]
    show _ = ((lotsTo cells m ++ lots cells (m + 1)).map lot)
    rw [List.map_append]
    simp
section
variable {P : Program} {w : World} {K : PySem.W.Frag} {mg : Str → Option Value} {base : Heap}
def sp_L_lots (K : PySem.W.Frag) : Sp := fun vs H Q _ => ∃ x y, vs = [x, y] ∧ ∃ (l : Addr) (cells : List C) (most : Nat), x = .ref l ∧ IsL K H l (cells.map pr) ∧ cells.length ≤ 16 ∧ y = .int (most : Nat) ∧ most ≤ 3 ∧
  ∀ H' p, Same H H' → IsL K H' p ((lotsTo cells most).map lot) → Q (.ref p) H'
abbrev n_L_lots : List Str := ["_law_cells", "_law_most", "_law_found", "_law_size", "_law_later", "_law_lot", "_law_cell_there"]
theorem sc_L_lots : FnScope n_L_lots ["_law_cells", "_law_most"] (defScope s_L_lots) := ⟨rfl, rfl, rfl, by decide +kernel, rfl, by decide +kernel, by decide +kernel⟩
theorem ok_L_lots (T : Txt K mg) : Ok P w K mg base "_law_lots" ["_law_cells", "_law_most"] 1 (sp_L_lots K) := by
  refine T.x_L_lots.ok sc_L_lots (fun _ _ _ _ _ _ us hl => match us, hl with | [_, _], _ => rfl) (fun vs H Q E h => by obtain ⟨_, _, rfl, _⟩ := h; rfl) (fun f cdv A outer s H vs Q E hr h => ?_)
  obtain ⟨_, _, rfl, l, cells, most, rfl, hl, hc, rfl, hm, q⟩ := h
  obtain ⟨xs, hx, ha⟩ := hl
  have hxl : xs.length = cells.length := by rw [ha.length, List.length_map]
  refine ⟨_, (pss_cons (ps_set (i := 2) sc_L_lots.nd rfl (.inl rfl) (pe_lst (pa_cons (pe_lst (pa_cons (pe_tup pa_nil) pa_nil)) pa_nil)))
    (pss_cons (ps_for PassesOwn.never rfl (pi_range1 rfl T.b_range (pa_cons (pv 1) pa_nil)) (pg_name (i := 3) sc_L_lots.nd rfl (.inl rfl))
      (pss_cons (ps_set (i := 4) sc_L_lots.nd rfl (.inl rfl) (pe_lst pa_nil))
      (pss_cons (ps_for PassesOwn.never rfl (pi_list (pe_ix ix_list (pv 2) (pe_un un_neg pe_int) (fun _ _ => rfl))) (pg_name (i := 5) sc_L_lots.nd rfl (.inr rfl))
        (pss_one (ps_expr (pe_bm PySem.F.plainAttrs_list PySem.F.slot_list_extend PySem.F.type_list_extend mt_extend (pv 4) (pa_cons (pe_lc (own := [("_law_cell_there", 6)]) rfl sc_L_lots.nd (pi_list (pv 0)) (blkOk_by (N := n_L_lots) (sc := (defScope s_L_lots)) (by decide +kernel)) (fun _ _ _ _ _ => (pg_name (i := 6) sc_L_lots.nd rfl (.inl rfl))) (fun _ _ _ _ _ => (pts_one (PW.pt (pw_or (pt_cmpR op_eq (pe_callB (call_lenOK K (by rfl)) (by rfl) T.b_len bt_len (pa_cons (pv 5) pa_nil)) pe_int (nomark _)) (pw_or1 (pt_cmpR (op_gtG K (by rfl) (Int × Int) (by decide) hr.units) (pv 6) (pe_ix (ix_tupK K (by rfl)) (pv 5) (pe_un un_neg pe_int) (fun _ _ => rfl)) (nomark _))))))) (fun _ _ _ _ _ => (pe_op (op_catAK K (by rfl)) (pv 5) (pe_tup (pa_cons (pv 6) pa_nil))))) pa_nil)))))
      (pss_one (ps_expr (pe_bm PySem.F.plainAttrs_list PySem.F.slot_list_append PySem.F.type_list_append mt_append (pv 2) (pa_cons (pv 4) pa_nil)))))))
    (pss_one (ps_ret (pe_callB (cr_sumL rfl) (by rfl) T.b_sum bt_sum (pa_cons (pv 2) (pa_cons (pe_lst pa_nil) pa_nil))))))), ?_⟩
  dsimp only [tVar, tC, tAdd, tSub, tMul, t2I, tCmp, tIsN, tNotN, tB, tAnd, tOr, tNot, tAndV, tOrV, tNotV, tIf, tSeq, tNext, tDrop, tRet, tRetN, tIfS, tAsg, tAug, tPar, gName, gNil, gCons, gSub, tOp, tUn, tTest, tChain, tCons, tNil, tTup, tLst, tCall, tCB, tMake, tFld, sFld, tNoPart, tPart, tSl, tBM, tBM0, rI0, rI, tYes, Cx.nox, Cx.blk, cxOf, List.nil_append, List.cons_append]
  refine ⟨Nat.zero_le _, fun e0 ne0 => ⟨(show 1 ≤ sizeLine by decide), fun L0 nL0 => ⟨(show 1 ≤ sizeLine by decide), fun fo nf => ?_⟩⟩⟩
  have s1 : Same H (upd (upd H e0 (.tup [])) L0 (.lst [.ref e0])) := (same_upd ne0).trans (same_upd nL0)
  have s0 := s1.trans (same_upd (o := .lst [.ref L0]) nf)
  have hL0 : IsL K (upd (upd H e0 (.tup [])) L0 (.lst [.ref e0])) L0 (([[]] : List (List C)).map lot) := IsL.mk nL0 (.one (Is.mk ne0 .nil))
  have nfL : fo ≠ L0 := fun z => by rw [z, upd_same] at nf; cases nf
  have hfo : IsLL K (upd (upd (upd H e0 (.tup [])) L0 (.lst [.ref e0])) fo (.lst [.ref L0])) fo (lotR cells 1) := ⟨[L0], upd_same, rfl, by simp [nfL], fun i a ds h1 h2 => by
    cases i with
    | zero =>
      simp only [List.getElem?_cons_zero, Option.some.injEq] at h1
      subst h1
      have : ds = ([[]] : List (List C)).map lot := by simpa [lotR, lots] using h2.symm
      subst this
      exact hL0.same (same_upd nf)
    | succ i => simp at h1⟩
  have hnf : H fo = none := by
    cases h : H fo with
    | none => rfl
    | some o => rw [s1 _ _ h] at nf; cases nf
  refine forF (B := H) (feedR 0 most) (fun R r => ⟨_, rfl, _, rfl, by omega, by omega, r⟩)
    (fun i σ H' => (∃ y3 y4 y5 y6, σ = [some (.ref l), some (.int (most : Nat)), some (.ref fo), y3, y4, y5, y6]) ∧ Same H H' ∧ IsLL K H' fo (lotR cells (i + 1)))
    ⟨⟨_, _, _, _, rfl⟩, s0, hfo⟩ (fun _ _ _ h => h.2.1) (fun i x σ H1 H2 hi hP s it => ?_) (fun σ H1 hP => ?_)
  · obtain ⟨⟨y3, y4, y5, y6, rfl⟩, s1, hf⟩ := hP
    subst it
    have s2 := s1.trans s
    have hf2 := hf.same s
    have hrow : (lotR cells (i + 1))[i]? = some ((lots cells i).map lot) := by unfold lotR; rw [List.getElem?_map, List.getElem?_range (by omega)]; rfl
    obtain ⟨a, hla, fs, efo, hfa⟩ := hf2.at hrow
    have hfl : fs.length = i + 1 := by
      obtain ⟨fs', e', hl'⟩ := hf2.sq
      rw [efo] at e'
      cases e'
      rw [hl']
      unfold lotR
      simp
    obtain ⟨zs, hz, hza⟩ := hla
    have hzl : zs.length = (lots cells i).length := by rw [hza.length, List.length_map]
    have hln : (lots cells i).length ≤ 256 := Nat.le_trans (lots_len cells i) (Nat.le_trans (Nat.pow_le_pow_left hc i) (Nat.le_trans (Nat.pow_le_pow_right (by decide) (show i ≤ 2 by omega)) (by decide)))
    have hS3 : ∀ S ∈ lots cells i, S.length = i := fun S hS => (mem_lots.mp hS).1
    dsimp only [tVar, tC, tAdd, tSub, tMul, t2I, tCmp, tIsN, tNotN, tB, tAnd, tOr, tNot, tAndV, tOrV, tNotV, tIf, tSeq, tNext, tDrop, tRet, tRetN, tIfS, tAsg, tAug, tPar, gName, gNil, gCons, gSub, tOp, tUn, tTest, tChain, tCons, tNil, tTup, tLst, tCall, tCB, tMake, tFld, sFld, tNoPart, tPart, tSl, tBM, tBM0, rI0, rI, tYes, Cx.nox, Cx.blk, cxOf, List.nil_append, List.cons_append]
    refine ⟨Nat.zero_le _, fun la nla => ?_⟩
    refine forF (B := H2) (feedL (K := K) (SqL.of hz)) (fun R r' => ?_)
      (fun k σ H' => (∃ y5 y6, σ = [some (.ref l), some (.int (most : Nat)), some (.ref fo), some (.int (0 + (i : Nat))), some (.ref la), y5, y6]) ∧ Same H2 H' ∧ IsL K H' la ((((lots cells i).take k).flatMap (lotS cells)).map lot))
      ⟨⟨_, _, rfl⟩, same_upd nla, IsL.mk nla .nil⟩ (fun _ _ _ h => h.2.1) (fun k y σ H3 H4 hk hP s3 it2 => ?_) (fun σ H3 hP => ?_)
    · unfold iList
      dsimp only [tVar, tC, tAdd, tSub, tMul, t2I, tCmp, tIsN, tNotN, tB, tAnd, tOr, tNot, tAndV, tOrV, tNotV, tIf, tSeq, tNext, tDrop, tRet, tRetN, tIfS, tAsg, tAug, tPar, gName, gNil, gCons, gSub, tOp, tUn, tTest, tChain, tCons, tNil, tTup, tLst, tCall, tCB, tMake, tFld, sFld, tNoPart, tPart, tSl, tBM, tBM0, rI0, rI, tYes, Cx.nox, Cx.blk, cxOf, List.nil_append, List.cons_append]
      refine ⟨_, rfl, 1, rfl, fo, fs, -1, .ref a, rfl, rfl, SqL.of (same_upd nla _ _ efo), ?_, a, rfl, ⟨_, SqL.of (same_upd nla _ _ hz)⟩, r'⟩
      unfold atI
      rw [hfl, ixN_last]
      exact hfa
    · obtain ⟨⟨y5, y6, rfl⟩, s4, hlo⟩ := hP
      have s24 := s4.trans s3
      obtain ⟨S, hS, hSv⟩ := hza.getM' it2
      have hSv4 := hSv.same s24
      have hSl := hS3 S (List.mem_of_getElem? hS)
      have hx4 := s24 _ _ (s2 _ _ hx)
      dsimp only [tVar, tC, tAdd, tSub, tMul, t2I, tCmp, tIsN, tNotN, tB, tAnd, tOr, tNot, tAndV, tOrV, tNotV, tIf, tSeq, tNext, tDrop, tRet, tRetN, tIfS, tAsg, tAug, tPar, gName, gNil, gCons, gSub, tOp, tUn, tTest, tChain, tCons, tNil, tTup, tLst, tCall, tCB, tMake, tFld, sFld, tNoPart, tPart, tSl, tBM, tBM0, rI0, rI, tYes, Cx.nox, Cx.blk, cxOf, List.nil_append, List.cons_append]
      have hlo4 := hlo.same s3
      refine ⟨_, rfl, hlo4.ty, ?_⟩
      refine lcF (B := H4) (feedL (SqL.of hx4)) (fun R r' => ⟨_, rfl, l, rfl, ⟨_, SqL.of hx4⟩, r'⟩)
        (fun L i acc H' => Same H4 H' ∧ IsA K H' acc ((((cells.take i).filter (fits S)).map fun c => S ++ [c]).map lot)) (fun L hL => ⟨same_upd hL, .nil⟩) (fun _ _ _ _ h => h.1) (fun L6 j x' acc H6 H7 hL6 hj hp6 hl6 hle6 s6 it6 => ?_) (fun L6 acc H6 hL6 hp6 hl6 hle6 => ?_)
      · obtain ⟨s7, ha7⟩ := hp6
        obtain ⟨c, hcj, hcv⟩ := ha.getM' it6
        have s47 := s7.trans s6
        have hc7 : Is K H7 x' (pr c) := ((hcv.same s2).same s24).same s47
        have hS7 : Is K H7 y (lot S) := hSv4.same s47
        dsimp only [tVar, tC, tAdd, tSub, tMul, t2I, tCmp, tIsN, tNotN, tB, tAnd, tOr, tNot, tAndV, tOrV, tNotV, tIf, tSeq, tNext, tDrop, tRet, tRetN, tIfS, tAsg, tAug, tPar, gName, gNil, gCons, gSub, tOp, tUn, tTest, tChain, tCons, tNil, tTup, tLst, tCall, tCB, tMake, tFld, sFld, tNoPart, tPart, tSl, tBM, tBM0, rI0, rI, tYes, Cx.nox, Cx.blk, cxOf, List.nil_append, List.cons_append]
        have hlen := hS7.len
        rw [List.length_map] at hlen
        have hj' : j < cells.length := by omega
        have yes : fits S c = true → ∀ N : V → Hp → Prop, (∀ H8 v8, Same H7 H8 → Is K H8 v8 (lot (S ++ [c])) → N v8 H8) → [x'].length ≤ sizeLine ∧ ∀ p, H7 p = none → rCatA K y (.ref p) (upd H7 p (.tup [x'])) N := fun _ N hN =>
          ⟨(show 1 ≤ sizeLine by decide), fun p np => r_cat (ds := S.map pr) (es := [pr c]) (hS7.same (same_upd np)) (Is.mk np (.one hc7)) (le_line (by rw [List.length_map]; simp; omega)) fun H8 v8 s8 h8 => hN H8 v8 ((same_upd np).trans s8) (by unfold lot; rw [List.map_append]; exact h8)⟩
        have got : fits S c = true → ∀ H8 v8, Same H7 H8 → Is K H8 v8 (lot (S ++ [c])) → LcGot (fun L i acc H' => Same H4 H' ∧ IsA K H' acc ((((cells.take i).filter (fits S)).map fun c => S ++ [c]).map lot)) L6 j v8 H8 := fun hf H8 v8 s8 h8 => by
          have s68 := s6.trans s8
          refine LcGot.mk (s68 _ _ hl6) hle6 (lt_line (by omega)) ⟨(s7.trans s68).out hL6, ?_⟩
          have e : ([c].filter (fits S)) = [c] := by rw [List.filter_cons, hf]; rfl
          rw [take_succ hcj, List.filter_append, e, List.map_append, List.map_append]
          exact ((ha7.same s68).tk (Tk.lst (s68 _ _ hl6))).append (.one (h8.tk (Tk.lst (s68 _ _ hl6))))
        refine ⟨rfl, _, rfl, _, _, rfl, hlen, rfl, _, rfl, ?_⟩
        cases hlast : S.getLast? with
        | none =>
          have hS0 : S = [] := List.getLast?_eq_none_iff.mp hlast
          have hf : fits S c = true := by rw [hS0]; rfl
          refine ifT (by rw [hS0]; rfl) (ifT rfl ⟨_, rfl, _, rfl, yes hf _ (got hf)⟩)
        | some z =>
          have hne : S ≠ [] := fun e => by rw [e] at hlast; cases hlast
          have hpos : 0 < S.length := List.length_pos_iff.mpr hne
          have hz' : S[S.length - 1]? = some z := by rw [← List.getLast?_eq_getElem?]; exact hlast
          refine ifF (by simp; omega) ⟨_, rfl, _, rfl, 1, rfl, r_ixT (ds := S.map pr) (j := S.length - 1) (d := pr z) hS7 rfl ?_ (by rw [List.getElem?_map, hz']; rfl) fun vz hvz => ⟨c, z, hc7, hvz, _, rfl, ?_⟩⟩
          · rw [List.length_map, show S.length = (S.length - 1) + 1 by omega, ixN_last]
            rfl
          · by_cases hcl : clt z c
            · have hf : fits S c = true := by rw [fits_last hlast]; exact decide_eq_true hcl
              exact ifT ((lt_clt z c).mpr hcl) ⟨_, rfl, _, rfl, yes hf _ (got hf)⟩
            · have hf : fits S c = false := by rw [fits_last hlast]; exact decide_eq_false hcl
              refine ifF (by rw [Bool.eq_false_iff]; exact fun h => hcl ((lt_clt z c).mp h)) (LcNx.mk (s6 _ _ hl6) hle6 ⟨s47, ?_⟩)
              have e : ([c].filter (fits S)) = [] := by rw [List.filter_cons, hf]; rfl
              rw [take_succ hcj, List.filter_append, e, List.append_nil]
              exact ha7.same s6
      · obtain ⟨s6, ha6⟩ := hp6
        rw [hxl, List.take_length] at ha6
        obtain ⟨xl, exl, hxa⟩ := hlo4.same s6
        have h1 : xl.length ≤ 256 * 16 := by
          rw [hxa.length, List.length_map]
          refine Nat.le_trans (flat_len (lotS cells) (m := 16) (fun p => Nat.le_trans (lotS_len cells p) hc) _) (Nat.mul_le_mul_right _ ?_)
          rw [List.length_take]
          omega
        have h2 : acc.length ≤ 16 := by
          rw [ha6.length, List.length_map]
          exact Nat.le_trans (lotS_len cells S) hc
        refine ⟨la, L6, xl, acc, rfl, rfl, exl, hl6, by rw [sizeLine_eq]; omega, ⟨_, _, rfl⟩, (s24.trans s6).out nla, ?_⟩
        rw [take_succ hS, List.flatMap_append, List.map_append]
        refine IsL.put exl (hxa.append ?_)
        rw [List.flatMap_cons, List.flatMap_nil, List.append_nil]
        exact ha6
    · obtain ⟨⟨y5, y6, rfl⟩, s4, hlo⟩ := hP
      dsimp only [tVar, tC, tAdd, tSub, tMul, t2I, tCmp, tIsN, tNotN, tB, tAnd, tOr, tNot, tAndV, tOrV, tNotV, tIf, tSeq, tNext, tDrop, tRet, tRetN, tIfS, tAsg, tAug, tPar, gName, gNil, gCons, gSub, tOp, tUn, tTest, tChain, tCons, tNil, tTup, tLst, tCall, tCB, tMake, tFld, sFld, tNoPart, tPart, tSl, tBM, tBM0, rI0, rI, tYes, Cx.nox, Cx.blk, cxOf, List.nil_append, List.cons_append]
      rw [hzl, List.take_length] at hlo
      refine ⟨_, rfl, (hf2.same s4).ty, _, rfl, r_appLL hf2 s4 nla hlo (by unfold lotR; simp; omega) fun H5 k5 h5 => ⟨⟨_, _, _, _, rfl⟩, k5 H (s2.trans s4) hnf, ?_⟩⟩
      unfold lotR at h5 ⊢
      rw [List.range_succ (n := i + 1), List.map_append]
      exact h5
  · obtain ⟨⟨y3, y4, y5, y6, rfl⟩, s1, hf⟩ := hP
    dsimp only [tVar, tC, tAdd, tSub, tMul, t2I, tCmp, tIsN, tNotN, tB, tAnd, tOr, tNot, tAndV, tOrV, tNotV, tIf, tSeq, tNext, tDrop, tRet, tRetN, tIfS, tAsg, tAug, tPar, gName, gNil, gCons, gSub, tOp, tUn, tTest, tChain, tCons, tNil, tTup, tLst, tCall, tCB, tMake, tFld, sFld, tNoPart, tPart, tSl, tBM, tBM0, rI0, rI, tYes, Cx.nox, Cx.blk, cxOf, List.nil_append, List.cons_append]
    refine ⟨_, rfl, Nat.zero_le _, fun p np => ⟨fo, p, lotR cells (most + 1), rfl, (hf.same (same_upd np)).w, IsL.mk np .nil, ?_, fun H' p' s' hp' => ?_⟩⟩
    · rw [lotR_flat, List.length_map]
      have h : ∀ m, m ≤ 3 → (lotsTo cells m).length ≤ 4096 * (m + 1) := by
        intro m
        induction m with
        | zero => intro _; simp [lotsTo, lots]
        | succ m ih =>
          intro h
          show (lotsTo cells m ++ lots cells (m + 1)).length ≤ _
          rw [List.length_append]
          have h1 := ih (by omega)
          have h2 := Nat.le_trans (lots_len cells (m + 1)) (Nat.le_trans (Nat.pow_le_pow_left hc (m + 1)) (Nat.pow_le_pow_right (n := 16) (by decide) h))
          have : 16 ^ 3 = 4096 := by decide
          omega
      have := h most hm
      omega
    · rw [lotR_flat] at hp'
      exact q _ _ (s1.trans ((same_upd np).trans s')) hp'
end
end UG
end
section
/-! Unitgrids: cells and units as a set's items; how many placings; a set of one. -/
namespace UG
open PySem PySem.Spec PyProof.Rows PySem.W L2 UM UL
/-! ### items -/
theorem key_pr (c : C) : Key1 (pr c) := ⟨⟨_, rfl⟩, by unfold pr; simp [nk, nks, NestedKey.depth, NestedKey.depthAll], by unfold pr; simp [nk, nks, dry, dryAll]⟩
theorem nk_fr (n : Int) : nk (fr n) = .tup [.num (frp n).1, .num (frp n).2] := by
  rw [fr_eq]
  simp [nk, nks]
theorem nk_un (u : Ut) : nk (un u) = .tup (u.map fun n => .tup [.num (frp n).1, .num (frp n).2]) := by
  unfold un
  rw [nk, nks_map, List.map_map]
  congr 1
  exact List.map_congr_left fun n _ => nk_fr n
theorem un_inj {u v : Ut} (h : nk (un u) = nk (un v)) : u = v := by
  rw [nk_un, nk_un] at h
  injection h with h
  induction u generalizing v with
  | nil => cases v with | nil => rfl | cons y b => cases h
  | cons x a ih =>
    cases v with
    | nil => cases h
    | cons y b =>
      rw [List.map_cons, List.map_cons] at h
      injection h with h1 h2
      injection h1 with h1
      injection h1 with h3 h4
      injection h3 with h3
      injection h4 with h4 h5
      injection h4 with h4
      rw [ih h2, frp_inj (Prod.ext h3 h4)]
theorem pr_inj {c d : C} (h : nk (pr c) = nk (pr d)) : c = d := by
  unfold pr at h
  simp only [nk, nks, NestedKey.tup.injEq, List.cons.injEq, NestedKey.num.injEq, and_true] at h
  exact Prod.ext h.1 h.2
theorem key_un (u : Ut) : Key1 (un u) := by
  refine ⟨⟨_, rfl⟩, ?_, ?_⟩
  · rw [nk_un]
    have : NestedKey.depthAll (u.map fun n => NestedKey.tup [.num (frp n).1, .num (frp n).2]) ≤ 1 := by
      induction u with
      | nil => simp [NestedKey.depthAll]
      | cons p l ih =>
        rw [List.map_cons, NestedKey.depthAll]
        refine Nat.max_le.mpr ⟨?_, ih⟩
        simp [NestedKey.depth, NestedKey.depthAll]
    rw [NestedKey.depth]
    omega
  · rw [nk_un, dry]
    induction u with
    | nil => rfl
    | cons p l ih =>
      rw [List.map_cons, dryAll, ih]
      simp [dry, dryAll]
/-- a set of these has one item -/
theorem one_unit {us : List Ut} {ds : List PyData} (hn : (ds.map nk).Nodup) (h1 : ∀ d ∈ ds, d ∈ us.map un) (h2 : ∀ d ∈ us.map un, nk d ∈ ds.map nk) : ds.length = 1 ↔ us ≠ [] ∧ ∀ u ∈ us, ∀ v ∈ us, u = v := by
  constructor
  · intro h
    obtain ⟨d, rfl⟩ := List.length_eq_one_iff.mp h
    refine ⟨fun e => ?_, fun u hu v hv => ?_⟩
    · subst e
      exact absurd (h1 d List.mem_cons_self) (by simp)
    · have a := h2 _ (List.mem_map.mpr ⟨u, hu, rfl⟩)
      have b := h2 _ (List.mem_map.mpr ⟨v, hv, rfl⟩)
      simp only [List.map_cons, List.map_nil, List.mem_singleton] at a b
      exact un_inj (a.trans b.symm)
  · rintro ⟨hne, hall⟩
    obtain ⟨u, hu⟩ := List.exists_mem_of_ne_nil _ hne
    have all1 : ∀ d ∈ ds, d = un u := fun d hd => by
      obtain ⟨v, hv, rfl⟩ := List.mem_map.mp (h1 d hd)
      rw [hall v hv u hu]
    match ds, hn, all1, h2 _ (List.mem_map.mpr ⟨u, hu, rfl⟩) with
    | [], _, _, h => exact absurd h (by simp)
    | [_], _, _, _ => rfl
    | d :: e :: ds, hn, all1, _ =>
      have e1 := all1 d List.mem_cons_self
      have e2 := all1 e (List.mem_cons_of_mem _ List.mem_cons_self)
      subst e1
      rw [e2, List.map_cons, List.map_cons, List.nodup_cons] at hn
      exact absurd List.mem_cons_self hn.1
/-- a set of cells -/
theorem set_cells {cs : List C} {ds : List PyData} (hn : (ds.map nk).Nodup) (h1 : ∀ d ∈ ds, d ∈ cs.map pr) (h2 : ∀ d ∈ cs.map pr, nk d ∈ ds.map nk) : ∃ cs' : List C, ds = cs'.map pr ∧ cs'.Nodup ∧ ∀ c, c ∈ cs' ↔ c ∈ cs := by
  have : ∀ ds : List PyData, (∀ d ∈ ds, d ∈ cs.map pr) → ∃ cs' : List C, ds = cs'.map pr ∧ ∀ c ∈ cs', c ∈ cs := by
    intro ds
    induction ds with
    | nil => intro _; exact ⟨[], rfl, by simp⟩
    | cons d ds ih =>
      intro h
      obtain ⟨cs', e, hm⟩ := ih fun z hz => h z (List.mem_cons_of_mem _ hz)
      obtain ⟨c, hc, rfl⟩ := List.mem_map.mp (h d List.mem_cons_self)
      refine ⟨c :: cs', by rw [e]; rfl, fun x hx => ?_⟩
      rcases List.mem_cons.mp hx with rfl | hx
      · exact hc
      · exact hm x hx
  obtain ⟨cs', rfl, hm⟩ := this ds h1
  refine ⟨cs', rfl, ?_, fun c => ⟨hm c, fun hc => ?_⟩⟩
  · rw [List.map_map] at hn
    have : ∀ l : List C, (l.map (nk ∘ pr)).Nodup → l.Nodup := fun l h => by
      rw [List.nodup_iff_pairwise_ne, List.pairwise_map] at h
      exact List.Pairwise.imp (fun {a b} h e => h (by rw [e])) h
    exact this _ hn
  · have := h2 _ (List.mem_map.mpr ⟨c, hc, rfl⟩)
    rw [List.map_map] at this
    obtain ⟨c', hc', e⟩ := List.mem_map.mp this
    rw [← pr_inj e]
    exact hc'
theorem srt_prs1 {l : List C} (h : l.length < 1000000) : Srt 1 (l.map pr) := by
  refine ⟨AllAlike.of alike_pr, Sortable.tuples fun p => ⟨_, _, rfl⟩, by rw [List.length_map]; exact h, fun d hd => ?_⟩
  obtain ⟨p, _, rfl⟩ := List.mem_map.mp hd
  rw [depth_pr]
  exact Nat.le_refl _
/-- a placing's cells, in order already -/
theorem pcs_asc (n : Nat) (q : Nat → Nat) : Asc (pcs n q) := by
  unfold pcs
  show List.Pairwise clt _
  rw [List.pairwise_map]
  exact List.Pairwise.imp (fun {a b} (h : a < b) => .inl (by show ((a : Nat) : Int) < (b : Nat); omega)) List.pairwise_lt_range
theorem asc_sorted {l : List C} (h : Asc l) : l.mergeSort cle = l := by
  refine List.mergeSort_of_pairwise (List.Pairwise.imp (fun {a b} h => ?_) h)
  unfold cle
  unfold clt at h
  simp only [decide_eq_true_eq]
  omega
theorem enD_pcs {p : List Nat} {n : Nat} (h : p.length = n) : enD (p.map nat) = (pcs n (pf p)).map pr := by
  unfold enD pcs
  apply List.ext_getElem?
  intro i
  rw [List.getElem?_mapIdx, List.getElem?_map, List.getElem?_map, List.getElem?_map]
  by_cases hi : i < n
  · rw [List.getElem?_range hi, List.getElem?_eq_getElem (by omega)]
    show some _ = some (pr (((i : Nat) : Int), ((pf p i : Nat) : Int)))
    unfold pf pr
    rw [List.getD_eq_getElem?_getD, List.getElem?_eq_getElem (by omega)]
    rfl
  · rw [List.getElem?_eq_none_iff.mpr (by omega), List.getElem?_eq_none_iff.mpr (by simp; omega)]
    rfl
theorem enD_sorted {p : List Nat} {n : Nat} (h : p.length = n) (hn : n < 1000) : Srt 1 (enD (p.map nat)) ∧ (enD (p.map nat)).mergeSort (dataLe false id) = (pcs n (pf p)).map pr := by
  rw [enD_pcs h]
  refine ⟨srt_prs1 (by unfold pcs; rw [List.length_map, List.length_range]; omega), ?_⟩
  rw [sort_prs, asc_sorted (pcs_asc n _)]
/-! ### how many placings -/
def dfac (m : Nat) : Nat → Nat
  | 0 => 1
  | i + 1 => dfac m i * (m - i)
theorem plS_len' {m : Nat} {r : List (Option Ut)} {p : List Nat} (hr : r.length ≤ m) (hn : p.Nodup) (hp : ∀ x ∈ p, x < m) : (plS r p).length ≤ m - p.length := by
  unfold plS
  rw [List.length_map]
  have h1 : (((free r).filter fun j => decide (j ∉ p)) ++ p).Nodup := by
    rw [List.nodup_append]
    refine ⟨List.Pairwise.filter _ (List.Pairwise.filter _ List.nodup_range), hn, fun a ha b hb e => ?_⟩
    rw [List.mem_filter, decide_eq_true_eq] at ha
    exact ha.2 (e ▸ hb)
  have h2 := nodup_len _ (List.range m) h1 fun x hx => by
    rw [List.mem_range]
    rcases List.mem_append.mp hx with hx | hx
    · rw [List.mem_filter, mem_free] at hx
      omega
    · exact hp x hx
  rw [List.length_append, List.length_range] at h2
  omega
theorem plc_len2 {m : Nat} : ∀ (g : Gd), (∀ r ∈ g, r.length ≤ m) → (plc g).length ≤ dfac m g.length := by
  intro g
  refine snoc_ind (Q := fun g : Gd => (∀ r ∈ g, r.length ≤ m) → (plc g).length ≤ dfac m g.length) (fun _ => by simp [plc, dfac]) (fun g r ih h => ?_) g
  rw [plc_snoc, List.length_append, List.length_singleton]
  have h1 := ih fun r hr => h r (List.mem_append_left _ hr)
  have h2 := flat_len' (plS r) (m := m - g.length) (plc g) fun p hp => by
    obtain ⟨a1, a2, a3⟩ := (mem_plc g p).mp hp
    rw [← a1]
    refine plS_len' (h r (List.mem_append_right _ (List.mem_singleton.mpr rfl))) a2 fun x hx => ?_
    obtain ⟨i, hi, rfl⟩ := List.mem_iff_getElem.mp hx
    have := (a3 i (by omega)).1
    rw [List.getD_eq_getElem?_getD, List.getElem?_eq_getElem hi] at this
    have hg : (g.getD i []).length ≤ m := by
      rw [List.getD_eq_getElem?_getD, List.getElem?_eq_getElem (by omega)]
      exact h _ (List.mem_append_left _ (List.getElem_mem _))
    exact Nat.lt_of_lt_of_le this hg
  exact Nat.le_trans h2 (Nat.mul_le_mul_right _ h1)
theorem plc_24 {b : Nat} {g : Gd} (ok : OkG b g) (h : g.length ≤ 4) : (plc g).length ≤ 24 := by
  have := plc_len2 (m := g.length) g fun r hr => Nat.le_of_eq (ok.sq r hr)
  have h1 := ok.n1
  generalize g.length = n at this h h1
  have : dfac n n ≤ 24 := by
    match n, h, h1 with
    | 1, _, _ => decide
    | 2, _, _ => decide
    | 3, _, _ => decide
    | 4, _, _ => decide
  omega
/-- the cells of placings lie in the grid -/
theorem pcs_in {b : Nat} {g : Gd} (ok : OkG b g) {c : C} (h : c ∈ ((plc g).map fun p => pcs g.length (pf p)).flatten) : c ∈ (List.range (g.length * g.length)).map fun k => (((k / g.length : Nat) : Int), ((k % g.length : Nat) : Int)) := by
  obtain ⟨l, hl, hc⟩ := List.mem_flatten.mp h
  obtain ⟨p, hp, rfl⟩ := List.mem_map.mp hl
  obtain ⟨i, hi, rfl⟩ := mem_pcs.mp hc
  have hj := ((plc_pl ok).mp hp).is.lt i hi
  have hj : pf p i < g.length := hj
  refine List.mem_map.mpr ⟨i * g.length + pf p i, List.mem_range.mpr ?_, ?_⟩
  · have : (i + 1) * g.length ≤ g.length * g.length := Nat.mul_le_mul_right _ hi
    rw [Nat.succ_mul] at this
    omega
  · have e1 : (i * g.length + pf p i) / g.length = i := by
      rw [Nat.add_comm, Nat.add_mul_div_right _ _ (by omega), Nat.div_eq_of_lt hj, Nat.zero_add]
    have e2 : (i * g.length + pf p i) % g.length = pf p i := by
      rw [Nat.add_comm, Nat.add_mul_mod_self_right, Nat.mod_eq_of_lt hj]
    rw [e1, e2]
end UG
end
section
/-! Unitgrids, the law's own way to the least lot. -/
namespace UG
open PySem PySem.Spec PyProof.Rows L2 RZ UM UL
open PySem.W (Datum DatumOrd Tup)
theorem pe_sortEnumK {X : Cx} (K : PySem.W.Frag) (eK : X.K = K) {a : Expr} {ta : TE} {p p2 q pos : Pos} (n : Nat) (hu : X.A.units + 64 < cLine) (hc : X.calm = true) (hg : Gl X "sorted") (hm : X.mg "sorted" = none) (hg2 : Gl X "enumerate") (hm2 : X.mg "enumerate" = none) (ha : PE X a ta)
    (na : starEach [a] X.env = (false, eval a X.env) :: starEach [] X.env := by rfl) (hnn : n ≤ 32 := by decide) : PE X (.Call (.Name "sorted" p) [.Call (.Name "enumerate" p2) [a] [] q] [] pos) (tSortEnum K n ta) := eK ▸ pe_sortEnum n hu hc hg hm hg2 hm2 ha na hnn
theorem dec_t {p : Prop} {d : Decidable p} (h : p) : @decide p d = true := by cases d with
  | isTrue _ => rfl
  | isFalse n => exact absurd h n
theorem dec_f {p : Prop} {d : Decidable p} (h : ¬ p) : @decide p d = false := by cases d with
  | isTrue n => exact absurd n h
  | isFalse _ => rfl
/-- a pair as a target, of any such tuple -/
theorem gPairT {K : PySem.W.Frag} {H : Hp} {σ : L2.St} {i j : Nat} {T : Addr} {p r : V} {k : L2.St → Hp → Prop} (h : SqT K H T [p, r]) (q : k ((σ.set i (some p)).set j (some r)) H) :
    gTup K 2 (gCons (gName i) (gCons (gName j) gNil)) (.ref T) σ H k :=
  ⟨T, [p, r], rfl, h, rfl, p, [r], rfl, r, [], rfl, rfl, q⟩
/-- a placing told: its cells, its unit -/
def Told (K : PySem.W.Frag) (H : Hp) (L : Addr) (n b : Nat) (g : Gd) (p : List Nat) (v : V) : Prop := ∃ T l u, v = .ref T ∧ l ≠ L ∧ SqT K H T [.ref l, u] ∧ IsL K H l ((pcs n (pf p)).map pr) ∧ Is K H u (un (wP n b g (pf p)))
theorem Told.same {K : PySem.W.Frag} {H H' : Hp} {L : Addr} {n b : Nat} {g : Gd} {p : List Nat} {v : V} (s : Same H H') (h : Told K H L n b g p v) : Told K H' L n b g p v :=
  let ⟨T, l, u, e, ne, h1, h2, h3⟩ := h; ⟨T, l, u, e, ne, SqT.same s h1, h2.same s, h3.same s⟩
theorem Told.lst {K : PySem.W.Frag} {H : Hp} {L : Addr} {n b : Nat} {g : Gd} {p : List Nat} {v : V} {xs ys : List V} (q : H L = some (.lst xs)) (h : Told K H L n b g p v) : Told K (upd H L (.lst ys)) L n b g p v :=
  let ⟨T, l, u, e, ne, h1, h2, h3⟩ := h; ⟨T, l, u, e, ne, SqT.tk (Tk.lst q) h1, h2.ne (Tk.lst q) ne, h3.tk (Tk.lst q)⟩
def Tolds (K : PySem.W.Frag) (H : Hp) (L : Addr) (n b : Nat) (g : Gd) (ps : List (List Nat)) (vs : List V) : Prop := vs.length = ps.length ∧ ∀ (i : Nat) p, ps[i]? = some p → ∃ v, vs[i]? = some v ∧ Told K H L n b g p v
theorem Tolds.same {K : PySem.W.Frag} {H H' : Hp} {L : Addr} {n b : Nat} {g : Gd} {ps : List (List Nat)} {vs : List V} (s : Same H H') (h : Tolds K H L n b g ps vs) : Tolds K H' L n b g ps vs :=
  ⟨h.1, fun i p e => let ⟨v, h1, h2⟩ := h.2 i p e; ⟨v, h1, h2.same s⟩⟩
theorem Tolds.push {K : PySem.W.Frag} {H : Hp} {L : Addr} {n b : Nat} {g : Gd} {ps : List (List Nat)} {p : List Nat} {vs : List V} {v : V} (q : H L = some (.lst vs)) (h : Tolds K H L n b g ps vs) (k : Told K H L n b g p v) : Tolds K (upd H L (.lst (vs ++ [v]))) L n b g (ps ++ [p]) (vs ++ [v]) := by
  refine ⟨by rw [List.length_append, List.length_append, h.1]; rfl, fun i r e => ?_⟩
  by_cases hi : i < ps.length
  · rw [List.getElem?_append_left hi] at e
    obtain ⟨w, h1, h2⟩ := h.2 i r e
    exact ⟨w, by rw [List.getElem?_append_left (by rw [h.1]; exact hi)]; exact h1, h2.lst q⟩
  · rw [List.getElem?_append_right (by omega)] at e
    have e0 : i - ps.length = 0 := by
      have := (List.getElem?_eq_some_iff.mp e).1
      simp at this
      omega
    rw [e0] at e
    cases e
    refine ⟨v, ?_, k.lst q⟩
    rw [List.getElem?_append_right (by rw [h.1]; omega), h.1, e0]
    rfl
theorem Tolds.at {K : PySem.W.Frag} {H : Hp} {L : Addr} {n b : Nat} {g : Gd} {ps : List (List Nat)} {vs : List V} (h : Tolds K H L n b g ps vs) {i : Nat} {v : V} (e : vs[i]? = some v) : ∃ p, ps[i]? = some p ∧ Told K H L n b g p v := by
  have hi : i < ps.length := by rw [← h.1]; exact (List.getElem?_eq_some_iff.mp e).1
  obtain ⟨w, h1, h2⟩ := h.2 i _ (List.getElem?_eq_getElem hi)
  rw [e] at h1
  cases h1
  exact ⟨_, List.getElem?_eq_getElem hi, h2⟩
section
variable {P : Program} {w : World} {K : PySem.W.Frag} {mg : Str → Option Value} {base : Heap}
def sp_L_due (K : PySem.W.Frag) : Sp := fun vs H Q _ => ∃ x y, vs = [x, y] ∧ ∃ (b : Nat) (g : Gd) (most : Nat), Is K H x (parts b g) ∧ OkG b g ∧ g.length ≤ 4 ∧ y = .int (most : Nat) ∧ most ≤ 3 ∧
  ∀ H' v, Same H H' → LeastV K H' (gf g.length b g) most v → Q v H'
abbrev n_L_due : List Str := ["_law_parts", "_law_most", "_law_placed_here", "_law_cells", "_law_lot", "_law_units_here", "_law_placing", "_law_row", "_law_unit_here", "_law_spot"]
theorem sc_L_due : FnScope n_L_due ["_law_parts", "_law_most"] (defScope s_L_due) := ⟨rfl, rfl, rfl, by decide +kernel, rfl, by decide +kernel, by decide +kernel⟩
theorem ok_L_due (T : Txt K mg) : Ok P w K mg base "_law_due" ["_law_parts", "_law_most"] 7 (sp_L_due K) := by
  refine T.x_L_due.ok sc_L_due (fun _ _ _ _ _ _ us hl => match us, hl with | [_, _], _ => rfl) (fun vs H Q E h => by obtain ⟨_, _, rfl, _⟩ := h; rfl) (fun f cdv A outer s H vs Q E hr h => ?_)
  obtain ⟨x, _, rfl, b, g, most, hx, ok, hn, rfl, hm, q⟩ := h
  have hn1 := ok.n1
  have h24 := plc_24 ok hn
  have plen : ∀ p ∈ plc g, p.length = g.length := fun p hp => ((mem_plc g p).mp hp).1
  refine ⟨_, (pss_cons (ps_setLc (i := 2) (own := [("_law_placing", 6)]) rfl sc_L_due.nd rfl rfl (sw_true rfl rfl rfl (by decide +kernel)) (pi_list (pc (ok_L_placings T) hr rfl (pa_cons (pe_ix ix_tup (pv 0) pe_int (fun _ _ => rfl)) pa_nil))) (blkOk_by (N := n_L_due) (sc := (defScope s_L_due)) (by decide +kernel)) (fun _ _ _ _ _ => (pg_name (i := 6) sc_L_due.nd rfl (.inl rfl))) (fun _ _ _ _ _ => pts_nil) (fun _ _ _ _ _ => (pe_tup (pa_cons (pe_sortEnumK K (by rfl) 1 hr.units rfl rfl T.b_sorted rfl T.b_enumerate (pv 6)) (pa_cons (pc (ok_L_placed T) hr rfl (pa_cons (pv 0) (pa_cons (pv 6) pa_nil))) pa_nil)))))
    (pss_cons (ps_set (i := 3) sc_L_due.nd rfl (.inl rfl) (pe_callB (cr_sortS 1 rfl hr.units) (by rfl) T.b_sorted bt_sorted (pa_cons (pe_callTy (call_setD rfl hr.units) (by rfl) T.b_set bt_set (pa_cons (pe_callB (cr_sumL rfl) (by rfl) T.b_sum bt_sum (pa_cons (pe_lc (own := [("_law_row", 7), ("_law_unit_here", 8)]) rfl sc_L_due.nd (pi_list (pv 2)) (blkOk_by (N := n_L_due) (sc := (defScope s_L_due)) (by decide +kernel)) (fun _ _ _ _ _ => (by refine pg2 (i := 7) (j := 8) K rfl sc_L_due.nd ?_ ?_ ?_ ?_ ?_ ?_ ?_ <;> first | rfl | exact .inl rfl | exact .inr rfl)) (fun _ _ _ _ _ => pts_nil) (fun _ _ _ _ _ => (pv 7))) (pa_cons (pe_lst pa_nil) pa_nil))) pa_nil)) pa_nil)))
    (pss_cons (ps_for PassesOwn.never rfl (pi_list (pc (ok_L_lots T) hr rfl (pa_cons (pv 3) (pa_cons (pv 1) pa_nil)))) (pg_name (i := 4) sc_L_due.nd rfl (.inr rfl))
      (pss_cons (ps_setLc (i := 5) (own := [("_law_row", 7), ("_law_unit_here", 8)]) rfl sc_L_due.nd rfl rfl (sw_true rfl rfl rfl (by decide +kernel)) (pi_list (pv 2)) (blkOk_by (N := n_L_due) (sc := (defScope s_L_due)) (by decide +kernel)) (fun _ _ _ _ _ => (by refine pg2 (i := 7) (j := 8) K rfl sc_L_due.nd ?_ ?_ ?_ ?_ ?_ ?_ ?_ <;> first | rfl | exact .inl rfl | exact .inr rfl)) (fun _ _ _ _ _ => (pts_one (pt_cmpR op_eq (pe_callB (call_lenOK K (by rfl)) (by rfl) T.b_len bt_len (pa_cons (pe_lc (own := [("_law_spot", 9)]) rfl sc_L_due.nd (pi_listK K (by rfl) (pv 7)) (blkOk_by (N := n_L_due) (sc := { kind := ScopeKind.function, names := [(Str.ofString ".0", NameKind.local), (Str.ofString "_law_row", NameKind.local), (Str.ofString "_law_unit_here", NameKind.local), (Str.ofString "len", NameKind.globalImplicit), (Str.ofString "_law_lot", NameKind.cell)], isGenerator := false, isCoroutine := false }) (by decide +kernel)) (fun _ _ _ _ _ => (pg_name (i := 9) sc_L_due.nd rfl (.inl rfl))) (fun _ _ _ _ _ => (pts_one (pt_cmpR (op_inG K (by rfl) (Int × Int) (by decide) hr.units) (pv 9) (pv 4) (by with_unfolding_all rfl)))) (fun _ _ _ _ _ => (pv 9))) pa_nil)) pe_int (nomark _)))) (fun _ _ _ _ _ => (pv 8)))
      (pss_one (ps_if (PW.pt (pw_and (pt_cmpR op_gt (pe_callB call_lenO (by rfl) T.b_len bt_len (pa_cons (pv 5) pa_nil)) pe_int (nomark _)) (pw_and1 (pt_cmpR op_eq (pe_callB call_lenS (by rfl) T.b_len bt_len (pa_cons (pe_callTy (call_setD rfl hr.units) (by rfl) T.b_set bt_set (pa_cons (pv 5) pa_nil)) pa_nil)) pe_int (nomark _)))))
        (pss_one (ps_ret (pv 4)))
        pss_nil))))
    (pss_one (ps_ret pe_non))))), ?_⟩
  dsimp only [tVar, tC, tAdd, tSub, tMul, t2I, tCmp, tIsN, tNotN, tB, tAnd, tOr, tNot, tAndV, tOrV, tNotV, tIf, tSeq, tNext, tDrop, tRet, tRetN, tIfS, tAsg, tAug, tPar, gName, gNil, gCons, gSub, tOp, tUn, tTest, tChain, tCons, tNil, tTup, tLst, tCall, tCB, tMake, tFld, sFld, tNoPart, tPart, tSl, tBM, tBM0, rI0, rI, tYes, Cx.nox, Cx.blk, cxOf, List.nil_append, List.cons_append]
  refine lcG (fun J H1 => ∃ a, J = Itl K a ∧ Same H H1 ∧ IsL K H1 a ((plc g).map tn)) (fun R r => ?_) (fun J H1 hJ => ?_)
  · unfold iList
    dsimp only [tVar, tC, tAdd, tSub, tMul, t2I, tCmp, tIsN, tNotN, tB, tAnd, tOr, tNot, tAndV, tOrV, tNotV, tIf, tSeq, tNext, tDrop, tRet, tRetN, tIfS, tAsg, tAug, tPar, gName, gNil, gCons, gSub, tOp, tUn, tTest, tChain, tCons, tNil, tTup, tLst, tCall, tCB, tMake, tFld, sFld, tNoPart, tPart, tSl, tBM, tBM0, rI0, rI, tYes, Cx.nox, Cx.blk, cxOf, List.nil_append, List.cons_append]
    refine ⟨_, rfl, r_ixTn (j := 1) hx rfl rfl fun v hv => ⟨_, rfl, b, g, hv, ok, hn, fun H1 a s1 ha => ⟨a, rfl, ?_, r _ _ ⟨a, rfl, s1, ha⟩⟩⟩⟩
    obtain ⟨xs, e, _⟩ := ha
    exact ⟨xs, SqL.of e⟩
  obtain ⟨a, rfl, s1, xs, ex, hxa⟩ := hJ
  have hxl : xs.length = (plc g).length := by rw [hxa.length, List.length_map]
  refine ⟨_, H1, _, feedL (K := K) (SqL.of ex), fun L i acc H2 => Same H1 H2 ∧ Tolds K H2 L g.length b g ((plc g).take i) acc, fun L hL => ⟨same_upd hL, rfl, fun i p h => by simp at h⟩, fun _ _ _ _ h => h.1, fun L i y acc H2 H3 hL hi hp hl hle s it => ?_, fun L acc H2 hL hp hl hle => ?_⟩
  · obtain ⟨s2, hT⟩ := hp
    obtain ⟨p, hpi, hpv⟩ := hxa.getM' it
    have s13 := s2.trans s
    have hp3 := hpv.same s13
    have hpm := List.mem_of_getElem? hpi
    dsimp only [tVar, tC, tAdd, tSub, tMul, t2I, tCmp, tIsN, tNotN, tB, tAnd, tOr, tNot, tAndV, tOrV, tNotV, tIf, tSeq, tNext, tDrop, tRet, tRetN, tIfS, tAsg, tAug, tPar, gName, gNil, gCons, gSub, tOp, tUn, tTest, tChain, tCons, tNil, tTup, tLst, tCall, tCB, tMake, tFld, sFld, tNoPart, tPart, tSl, tBM, tBM0, rI0, rI, tYes, Cx.nox, Cx.blk, cxOf, List.nil_append, List.cons_append]
    unfold tSortEnum
    dsimp only [tVar, tC, tAdd, tSub, tMul, t2I, tCmp, tIsN, tNotN, tB, tAnd, tOr, tNot, tAndV, tOrV, tNotV, tIf, tSeq, tNext, tDrop, tRet, tRetN, tIfS, tAsg, tAug, tPar, gName, gNil, gCons, gSub, tOp, tUn, tTest, tChain, tCons, tNil, tTup, tLst, tCall, tCB, tMake, tFld, sFld, tNoPart, tPart, tSl, tBM, tBM0, rI0, rI, tYes, Cx.nox, Cx.blk, cxOf, List.nil_append, List.cons_append]
    obtain ⟨c, ys, rfl, hct, hca⟩ := id hp3.tup_ex
    obtain ⟨srt, sorted⟩ := enD_sorted (plen p hpm) (by omega)
    refine ⟨rfl, ifT rfl ⟨_, rfl, c, _, rfl, hp3, srt, fun H4 l4 s4 n4 hl4 => ?_⟩⟩
    rw [sorted] at hl4
    refine ⟨_, rfl, _, rfl, _, _, rfl, b, g, p, ((hx.same s1).same s13).same s4, ok, hp3.same s4, (plc_pl ok).mp hpm, fun H5 u s5 hu => ⟨two_le2 _ _, fun T nT => ?_⟩⟩
    have s35 := s4.trans (s5.trans (same_upd (o := .tup [.ref l4, u]) nT))
    have e6 := (s.trans s35) _ _ hl
    have hl6 := (hl4.same s5).same (same_upd (o := .tup [.ref l4, u]) nT)
    have e3 := s _ _ hl
    refine LcGot.mk e6 hle (lt_line (by omega)) ⟨(s13.trans s35).out hL, ?_⟩
    rw [take_succ hpi]
    exact Tolds.push e6 (hT.same (s.trans s35)) ⟨T, l4, u, rfl, fun z => (by rw [z, e3] at n4; cases n4), SqT.of upd_same, hl6, hu.same (same_upd nT)⟩
  obtain ⟨s2, hT⟩ := hp
  rw [hxl, List.take_length] at hT
  have hacc : acc.length = (plc g).length := hT.1
  -- the rows alone
  refine lcF (B := H2) (feedL (K := K) (SqL.of hl)) (fun R r => ⟨_, rfl, L, rfl, ⟨_, SqL.of hl⟩, r⟩)
    (fun L2 i acc2 H3 => Same H2 H3 ∧ ∃ as : List Addr, acc2 = as.map V.ref ∧ as.length = i ∧ ∀ (j : Nat) a p, as[j]? = some a → (plc g)[j]? = some p → IsL K H2 a ((pcs g.length (pf p)).map pr)) (fun L2 hL2 => ⟨same_upd hL2, [], rfl, rfl, fun j a p h => by simp at h⟩) (fun _ _ _ _ h => h.1) (fun L2 i y acc2 H3 H4 hL2 hi hp hl2 hle2 s3 it => ?_) (fun L2 acc2 H3 hL2 hp hl2 hle2 => ?_)
  · obtain ⟨s4, as, rfl, has, hget⟩ := hp
    obtain ⟨p, hpi, T, l', u, rfl, ne, hq, hrow, hu⟩ := hT.at it
    refine gPairT (SqT.same (s4.trans s3) hq) ?_
    dsimp only [tVar, tC, tAdd, tSub, tMul, t2I, tCmp, tIsN, tNotN, tB, tAnd, tOr, tNot, tAndV, tOrV, tNotV, tIf, tSeq, tNext, tDrop, tRet, tRetN, tIfS, tAsg, tAug, tPar, gName, gNil, gCons, gSub, tOp, tUn, tTest, tChain, tCons, tNil, tTup, tLst, tCall, tCB, tMake, tFld, sFld, tNoPart, tPart, tSl, tBM, tBM0, rI0, rI, tYes, Cx.nox, Cx.blk, cxOf, List.nil_append, List.cons_append]
    refine ⟨rfl, ifT rfl ⟨_, rfl, ?_⟩⟩
    refine LcGot.mk (s3 _ _ hl2) hle2 (lt_line (by omega)) ⟨(s4.trans s3).out hL2, as ++ [l'], by rw [List.map_append]; rfl, by rw [List.length_append, has]; rfl, fun j a q h1 h2 => ?_⟩
    by_cases hj : j < as.length
    · rw [List.getElem?_append_left hj] at h1
      exact hget j a q h1 h2
    · rw [List.getElem?_append_right (by omega)] at h1
      have e0 : j - as.length = 0 := by
        have := (List.getElem?_eq_some_iff.mp h1).1
        simp at this
        omega
      rw [e0] at h1
      cases h1
      have : j = i := by omega
      subst this
      rw [hpi] at h2
      cases h2
      exact hrow
  obtain ⟨s3, as, rfl, has, hget⟩ := hp
  refine ⟨Nat.zero_le _, fun e0 ne0 => ?_⟩
  have s4 := s3.trans (same_upd (o := .lst []) ne0)
  have hrows : ((plc g).map fun p => (pcs g.length (pf p)).map pr).flatten = (((plc g).map fun p => pcs g.length (pf p)).flatten).map pr := by
    rw [List.map_flatten, List.map_map]
    rfl
  have hcsl : (((plc g).map fun p => pcs g.length (pf p)).flatten).length ≤ 24 * 4 := by
    rw [← List.flatMap_def]
    refine Nat.le_trans (flat_len (fun p => pcs g.length (pf p)) (m := 4) (fun p => by unfold pcs; rw [List.length_map, List.length_range]; exact hn) _) (Nat.mul_le_mul_right _ h24)
  have hcsin := fun c => pcs_in (c := c) ok
  have hcslive := fun x => live_iff (x := x) ok
  generalize ((plc g).map fun p => pcs g.length (pf p)).flatten = cs at hrows hcsl hcsin hcslive
  refine ⟨L2, e0, (plc g).map fun p => (pcs g.length (pf p)).map pr, rfl, ⟨as, same_upd ne0 _ _ hl2, by rw [has, hacc, List.length_map], fun i a ds h1 h2 => ?_⟩, IsL.mk ne0 .nil, by rw [hrows, List.length_map]; omega, fun H5 l5 s5 hl5 => ?_⟩
  · rw [List.getElem?_map] at h2
    cases hp : (plc g)[i]? with
    | none => rw [hp] at h2; cases h2
    | some p =>
      rw [hp] at h2
      cases h2
      exact (hget i a p h1 hp).same s4
  rw [hrows] at hl5
  have hg16 : g.length * g.length ≤ 16 := Nat.le_trans (Nat.mul_le_mul hn hn) (by decide)
  refine ⟨l5, cs.map pr, rfl, hl5, fun d hd => ?_, ⟨((List.range (g.length * g.length)).map fun k => (((k / g.length : Nat) : Int), ((k % g.length : Nat) : Int))).map fun c : C => nk (pr c), by rw [List.length_map, List.length_map, List.length_range]; omega, fun d hd => ?_⟩, fun H6 S ds' s6 hS hnd hsub hall => ?_⟩
  · obtain ⟨c, _, rfl⟩ := List.mem_map.mp hd
    exact key_pr c
  · obtain ⟨c, hc, rfl⟩ := List.mem_map.mp hd
    exact List.mem_map.mpr ⟨c, hcsin c hc, rfl⟩
  obtain ⟨cs', rfl, hnd', hmem⟩ := set_cells hnd hsub hall
  have hcs'len : cs'.length ≤ 16 := by
    have h1 := asc_sub_len (sort_asc hnd') (b := (List.range (g.length * g.length)).map fun k => (((k / g.length : Nat) : Int), ((k % g.length : Nat) : Int))) fun x hx => hcsin x ((hmem x).mp (List.mem_mergeSort.mp hx))
    rw [List.length_mergeSort, List.length_map, List.length_range] at h1
    omega
  refine ⟨S, _, rfl, hS, fun ds2 hp2 => ?_, fun H7 l7 ds2 s7 hp2 hl7 => ?_⟩
  · obtain ⟨zs, z1, z2⟩ := perm_back pr hp2.symm cs' rfl
    rw [z2]
    exact srt_prs1 (by rw [z1.length_eq]; omega)
  obtain ⟨zs, z1, rfl⟩ := perm_back pr hp2.symm cs' rfl
  rw [sort_prs] at hl7
  have hasc : Asc (zs.mergeSort cle) := sort_asc (z1.nodup_iff.mpr hnd')
  have hlive : ∀ x, x ∈ zs.mergeSort cle ↔ UL.live (gf g.length b g) x := fun x => by rw [List.mem_mergeSort, z1.mem_iff, hmem, hcslive]
  have hclen : (zs.mergeSort cle).length ≤ 16 := by rw [List.length_mergeSort, z1.length_eq]; exact hcs'len
  generalize zs.mergeSort cle = cells at hl7 hasc hlive hclen
  have s27 := s4.trans (s5.trans (s6.trans s7))
  have s07 := (s1.trans s2).trans s27
  have hL7 := s27 _ _ hl
  have hT7 := hT.same s27
  refine forG (fun J H8 => ∃ a, J = Itl K a ∧ Same H7 H8 ∧ IsL K H8 a ((lotsTo cells most).map lot)) (fun R r => ?_) (fun J H8 hJ => ?_)
  · unfold iList
    dsimp only [tVar, tC, tAdd, tSub, tMul, t2I, tCmp, tIsN, tNotN, tB, tAnd, tOr, tNot, tAndV, tOrV, tNotV, tIf, tSeq, tNext, tDrop, tRet, tRetN, tIfS, tAsg, tAug, tPar, gName, gNil, gCons, gSub, tOp, tUn, tTest, tChain, tCons, tNil, tTup, tLst, tCall, tCB, tMake, tFld, sFld, tNoPart, tPart, tSl, tBM, tBM0, rI0, rI, tYes, Cx.nox, Cx.blk, cxOf, List.nil_append, List.cons_append]
    refine ⟨_, rfl, _, rfl, _, _, rfl, l7, cells, most, rfl, hl7, hclen, rfl, hm, fun H8 p8 s8 hp8 => ⟨p8, rfl, ?_, r _ _ ⟨p8, rfl, s8, hp8⟩⟩⟩
    obtain ⟨xs, e, _⟩ := hp8
    exact ⟨xs, SqL.of e⟩
  obtain ⟨la, rfl, s8, zs, ez, hza⟩ := hJ
  have hzl : zs.length = (lotsTo cells most).length := by rw [hza.length, List.length_map]
  have s08 := s07.trans s8
  refine ⟨_, H8, _, feedL (K := K) (SqL.of ez), fun i σ H' => (∃ y4 y5 y6 y7 y8 y9, σ = [some x, some (.int (most : Nat)), some (.ref L), some (.ref l7), y4, y5, y6, y7, y8, y9]) ∧ Same H8 H' ∧ ∀ (j : Nat) S, j < i → (lotsTo cells most)[j]? = some S → ¬ enough (gf g.length b g) S,
    ⟨⟨_, _, _, _, _, _, rfl⟩, Same.refl _, fun j S h => absurd h (Nat.not_lt_zero _)⟩, fun _ _ _ h => h.2.1, fun i y σ H9 H10 hi hP s it => ?_, fun σ H9 hP => ?_⟩
  · obtain ⟨⟨y4, y5, y6, y7, y8, y9, rfl⟩, s9, hno⟩ := hP
    obtain ⟨lt, hlt, hlv⟩ := hza.getM' it
    have s810 := s9.trans s
    have hlv10 := hlv.same s810
    have hT10 := (hT7.same s8).same s810
    have hL10 := s810 _ _ (s8 _ _ hL7)
    have hlt3 : lt.length ≤ 3 := by have := (mem_lotsTo.mp (List.mem_of_getElem? hlt)).1; omega
    dsimp only [tVar, tC, tAdd, tSub, tMul, t2I, tCmp, tIsN, tNotN, tB, tAnd, tOr, tNot, tAndV, tOrV, tNotV, tIf, tSeq, tNext, tDrop, tRet, tRetN, tIfS, tAsg, tAug, tPar, gName, gNil, gCons, gSub, tOp, tUn, tTest, tChain, tCons, tNil, tTup, tLst, tCall, tCB, tMake, tFld, sFld, tNoPart, tPart, tSl, tBM, tBM0, rI0, rI, tYes, Cx.nox, Cx.blk, cxOf, List.nil_append, List.cons_append]
    refine lcF (B := H10) (feedL (K := K) (SqL.of hL10)) (fun R r => ⟨_, rfl, L, rfl, ⟨_, SqL.of hL10⟩, r⟩)
      (fun L3 i acc3 H' => Same H10 H' ∧ IsA K H' acc3 ((((plc g).take i).filter fun p => decide (avoids (pcs g.length (pf p)) lt)).map fun p => un (wP g.length b g (pf p)))) (fun L3 hL3 => ⟨same_upd hL3, .nil⟩) (fun _ _ _ _ h => h.1) (fun L3 k y' acc3 H11 H12 hL3 hk hp hl3 hle3 s3' it3 => ?_) (fun L3 acc3 H11 hL3 hp hl3 hle3 => ?_)
    · obtain ⟨s11, ha3⟩ := hp
      obtain ⟨p, hpk, T, l', u, rfl, ne, hq, hrow, hu⟩ := hT10.at it3
      have s12 := s11.trans s3'
      have hpn : (pcs g.length (pf p)).length = g.length := by unfold pcs; rw [List.length_map, List.length_range]
      obtain ⟨rs, er, hra⟩ := hrow.same s12
      have hrl : rs.length = g.length := by rw [hra.length, List.length_map, hpn]
      have hlv12 := hlv10.same s12
      refine gPairT (SqT.same s12 hq) ?_
      dsimp only [tVar, tC, tAdd, tSub, tMul, t2I, tCmp, tIsN, tNotN, tB, tAnd, tOr, tNot, tAndV, tOrV, tNotV, tIf, tSeq, tNext, tDrop, tRet, tRetN, tIfS, tAsg, tAug, tPar, gName, gNil, gCons, gSub, tOp, tUn, tTest, tChain, tCons, tNil, tTup, tLst, tCall, tCB, tMake, tFld, sFld, tNoPart, tPart, tSl, tBM, tBM0, rI0, rI, tYes, Cx.nox, Cx.blk, cxOf, List.nil_append, List.cons_append]
      refine ⟨rfl, ?_⟩
      refine lcF (B := H12) (feedL (K := K) (SqL.of er)) (fun R r => ⟨_, rfl, l', rfl, ⟨_, SqL.of er⟩, r⟩)
        (fun L4 j acc4 H' => Same H12 H' ∧ IsA K H' acc4 ((((pcs g.length (pf p)).take j).filter fun c => decide (c ∈ lt)).map pr)) (fun L4 hL4 => ⟨same_upd hL4, .nil⟩) (fun _ _ _ _ h => h.1) (fun L4 j z acc4 H13 H14 hL4 hj hp hl4 hle4 s4' it4 => ?_) (fun L4 acc4 H13 hL4 hp hl4 hle4 => ?_)
      · obtain ⟨s13, ha4⟩ := hp
        obtain ⟨c, hcj, hcv⟩ := hra.getM' it4
        have s14 := s13.trans s4'
        dsimp only [tVar, tC, tAdd, tSub, tMul, t2I, tCmp, tIsN, tNotN, tB, tAnd, tOr, tNot, tAndV, tOrV, tNotV, tIf, tSeq, tNext, tDrop, tRet, tRetN, tIfS, tAsg, tAug, tPar, gName, gNil, gCons, gSub, tOp, tUn, tTest, tChain, tCons, tNil, tTup, tLst, tCall, tCB, tMake, tFld, sFld, tNoPart, tPart, tSl, tBM, tBM0, rI0, rI, tYes, Cx.nox, Cx.blk, cxOf, List.nil_append, List.cons_append]
        refine ⟨rfl, _, rfl, _, rfl, c, lt, hcv.same s14, hlv12.same s14, _, rfl, ?_⟩
        by_cases hin : c ∈ lt
        · refine ifT (dec_t hin) ⟨_, rfl, ?_⟩
          refine LcGot.mk (s4' _ _ hl4) hle4 (lt_line (by omega)) ⟨s14.out hL4, ?_⟩
          have e : ([c].filter fun c => decide (c ∈ lt)) = [c] := by rw [List.filter_cons, decide_eq_true hin]; rfl
          rw [take_succ hcj, List.filter_append, e, List.map_append]
          exact ((ha4.same s4').tk (Tk.lst (s4' _ _ hl4))).append (.one ((hcv.same s14).tk (Tk.lst (s4' _ _ hl4))))
        · refine ifF (dec_f hin) (LcNx.mk (s4' _ _ hl4) hle4 ⟨s14, ?_⟩)
          have e : ([c].filter fun c => decide (c ∈ lt)) = [] := by rw [List.filter_cons, decide_eq_false hin]; rfl
          rw [take_succ hcj, List.filter_append, e, List.append_nil]
          exact ha4.same s4'
      · obtain ⟨s13, ha4⟩ := hp
        rw [show rs.length = (pcs g.length (pf p)).length from hrl.trans hpn.symm, List.take_length] at ha4
        have hav : acc4.length = 0 ↔ avoids (pcs g.length (pf p)) lt := by
          rw [ha4.length, List.length_map, List.length_eq_zero_iff, List.filter_eq_nil_iff]
          unfold avoids
          simp only [decide_eq_true_eq]
        have s23 := s3'.trans s13
        refine ⟨_, _, rfl, LenO.l hl4, rfl, _, rfl, ?_⟩
        by_cases h0 : acc4.length = 0
        · have ha := hav.mp h0
          refine ifT (by rw [h0]; rfl) ⟨_, rfl, ?_⟩
          refine LcGot.mk (s23 _ _ hl3) hle3 (lt_line (by omega)) ⟨(s11.trans s23).out hL3, ?_⟩
          have e : ([p].filter fun p => decide (avoids (pcs g.length (pf p)) lt)) = [p] := by rw [List.filter_cons, decide_eq_true ha]; rfl
          rw [take_succ hpk, List.filter_append, e, List.map_append]
          exact ((ha3.same s23).tk (Tk.lst (s23 _ _ hl3))).append (.one (((hu.same s12).same s13).tk (Tk.lst (s23 _ _ hl3))))
        · have ha : ¬ avoids (pcs g.length (pf p)) lt := fun h => h0 (hav.mpr h)
          refine ifF (by simp; intro e; exact h0 (by rw [e]; rfl)) (LcNx.mk (s23 _ _ hl3) hle3 ⟨s11.trans s23, ?_⟩)
          have e : ([p].filter fun p => decide (avoids (pcs g.length (pf p)) lt)) = [] := by rw [List.filter_cons, decide_eq_false ha]; rfl
          rw [take_succ hpk, List.filter_append, e, List.append_nil]
          exact ha3.same s23
    · obtain ⟨s11, ha3⟩ := hp
      rw [hacc, List.take_length] at ha3
      have hus : IsL K H11 L3 (((left g.length g lt).map fun p => wP g.length b g (pf p)).map un) := ⟨acc3, hl3, by rw [List.map_map]; exact ha3⟩
      have hul : acc3.length = (left g.length g lt).length := by rw [ha3.length, List.length_map]; rfl
      have henough := enough_iff (S := lt) ok
      have hleft : (left g.length g lt).length ≤ 24 := Nat.le_trans (List.length_filter_le _ _) h24
      have next : ¬ enough (gf g.length b g) lt → ∀ (j : Nat) S, j < i + 1 → (lotsTo cells most)[j]? = some S → ¬ enough (gf g.length b g) S := fun hne j S hj hS => by
        by_cases hji : j = i
        · subst hji
          rw [hlt] at hS
          cases hS
          exact hne
        · exact hno j S (by omega) hS
      refine ⟨_, rfl, _, _, rfl, LenO.l hl3, _, _, rfl, rfl, _, rfl, ?_⟩
      by_cases h0 : (0 : Int) < (acc3.length : Nat)
      · refine ifT (decide_eq_true h0) ⟨_, rfl, L3, _, rfl, hus, fun d hd => ?_, ⟨((left g.length g lt).map fun p => nk (un (wP g.length b g (pf p)))), by rw [List.length_map]; omega, fun d hd => ?_⟩, fun H12 S ds' s12 hS hnd hsub hall => ?_⟩
        · obtain ⟨u, _, rfl⟩ := List.mem_map.mp hd
          exact key_un u
        · obtain ⟨u, hu, rfl⟩ := List.mem_map.mp hd
          obtain ⟨p, hp, rfl⟩ := List.mem_map.mp hu
          exact List.mem_map.mpr ⟨p, hp, rfl⟩
        have h1 := one_unit hnd hsub hall
        have h2 : enough (gf g.length b g) lt ↔ ds'.length = 1 := by
          rw [h1, henough]
          constructor
          · rintro ⟨q1, q2⟩
            refine ⟨fun e => q1 (List.map_eq_nil_iff.mp e), fun u hu v hv => ?_⟩
            obtain ⟨p, hp, rfl⟩ := List.mem_map.mp hu
            obtain ⟨p', hp', rfl⟩ := List.mem_map.mp hv
            exact q2 p hp p' hp'
          · rintro ⟨q1, q2⟩
            exact ⟨fun e => q1 (by rw [e]; rfl), fun p hp p' hp' => q2 _ (List.mem_map.mpr ⟨p, hp, rfl⟩) _ (List.mem_map.mpr ⟨p', hp', rfl⟩)⟩
        refine ⟨S, ds', rfl, hS, rfl, _, rfl, ?_⟩
        by_cases h3 : ds'.length = 1
        · refine ifT (by rw [h3]; rfl) ⟨_, rfl, q _ _ (s08.trans (s810.trans (s11.trans s12))) (.inr ⟨lt, (hlv10.same s11).same s12, ?_⟩)⟩
          exact due_first hasc hlive hlt (h2.mpr h3) fun j T hj hT => hno j T hj hT
        · refine ifF (dec_f fun e => h3 (by injection e with e; omega)) ⟨⟨_, _, _, _, _, _, rfl⟩, s810.trans (s11.trans s12), next fun h => h3 (h2.mp h)⟩
      · refine ifF (decide_eq_false h0) (ifF rfl ⟨⟨_, _, _, _, _, _, rfl⟩, s810.trans s11, next fun h => ?_⟩)
        have := (henough.mp h).1
        exact this (List.eq_nil_of_length_eq_zero (by omega))
  · obtain ⟨⟨y4, y5, y6, y7, y8, y9, rfl⟩, s9, hno⟩ := hP
    dsimp only [tVar, tC, tAdd, tSub, tMul, t2I, tCmp, tIsN, tNotN, tB, tAnd, tOr, tNot, tAndV, tOrV, tNotV, tIf, tSeq, tNext, tDrop, tRet, tRetN, tIfS, tAsg, tAug, tPar, gName, gNil, gCons, gSub, tOp, tUn, tTest, tChain, tCons, tNil, tTup, tLst, tCall, tCB, tMake, tFld, sFld, tNoPart, tPart, tSl, tBM, tBM0, rI0, rI, tYes, Cx.nox, Cx.blk, cxOf, List.nil_append, List.cons_append]
    refine q _ _ (s08.trans s9) (.inl ⟨rfl, due_none hlive fun T hT => ?_⟩)
    obtain ⟨j, hj⟩ := List.getElem?_of_mem hT
    refine hno j T ?_ hj
    rw [hzl]
    exact (List.getElem?_eq_some_iff.mp hj).1
end
end UG
end
section
/-! Unitgrids: a slant and a ring beside it. -/
namespace UG
open PySem PySem.Spec PyProof.Rows UM UL
/-- the slant's weights: 2 (one, doubled), but at one place 4 if they weigh unlike -/
def slw (al : Bool) (a i : Nat) : Int := if al = true ∨ i ≠ a then 2 else 4
def slC (m : Nat) (al : Bool) (a i j : Nat) : Option Ut := if j = (i + 1) % m then some [2] else if j = i then some [slw al a i] else none
def slR (m : Nat) (al : Bool) (a : Nat) : Gd := mk m (slC m al a)
theorem slw_or (al : Bool) (a i : Nat) : slw al a i = 2 ∨ slw al a i = 4 := by unfold slw; split <;> simp
section
variable {m : Nat} {al : Bool} {a : Nat}
theorem nx_ne (hm : 5 ≤ m) {i : Nat} (hi : i < m) : (i + 1) % m ≠ i := fun e => by
  by_cases h : i + 1 < m
  · rw [Nat.mod_eq_of_lt h] at e; omega
  · have : i + 1 = m := by omega
    rw [this, Nat.mod_self] at e
    omega
theorem slR_len : (slR m al a).length = m := by unfold slR mk; simp
theorem slR_ok (hm : 5 ≤ m) (hm2 : m ≤ 10) : OkG 1 (slR m al a) := by
  have hok : ∀ i j u, slC m al a i j = some u → OkU 1 u := fun i j u h => by
    unfold slC at h
    split at h
    · cases h
      exact ⟨rfl, fun n hn => by rw [List.mem_singleton] at hn; omega⟩
    · split at h
      · cases h
        refine ⟨rfl, fun n hn => ?_⟩
        rw [List.mem_singleton] at hn
        rcases slw_or al a i with e | e <;> omega
      · cases h
  refine ⟨Nat.le_refl _, by omega, by rw [slR_len]; omega, by rw [slR_len]; exact hm2, fun r hr => ?_, fun r hr c hc u e => ?_⟩
  · rw [slR_len]
    unfold slR mk at hr
    obtain ⟨i, _, rfl⟩ := List.mem_map.mp hr
    simp
  · unfold slR mk at hr
    obtain ⟨i, _, rfl⟩ := List.mem_map.mp hr
    obtain ⟨j, _, rfl⟩ := List.mem_map.mp hc
    exact hok i j u e
theorem sl_ed {i j : Nat} : Ed m (slR m al a) i j ↔ i < m ∧ j < m ∧ (j = i ∨ j = (i + 1) % m) := by
  unfold slR
  rw [ed_mk]
  refine and_congr Iff.rfl (and_congr Iff.rfl ?_)
  unfold slC
  constructor
  · rintro ⟨u, h⟩
    split at h
    · right; assumption
    · split at h
      · left; assumption
      · cases h
  · intro h
    by_cases h1 : j = (i + 1) % m
    · rw [if_pos h1]; exact ⟨_, rfl⟩
    · rw [if_neg h1, if_pos (h.resolve_right h1)]; exact ⟨_, rfl⟩
/-- the two placings -/
theorem id_pl (hm : 5 ≤ m) : IsP m (Ed m (slR m al a)) fun i => i := ⟨⟨fun _ h => h, fun _ _ _ _ e => e⟩, fun i hi => sl_ed.mpr ⟨hi, hi, .inl rfl⟩⟩
theorem nx_pl (hm : 5 ≤ m) : IsP m (Ed m (slR m al a)) fun i => (i + 1) % m := by
  have lt : ∀ i, (i + 1) % m < m := fun i => Nat.mod_lt _ (by omega)
  refine ⟨⟨fun i _ => lt i, fun i j hi hj e => ?_⟩, fun i hi => sl_ed.mpr ⟨hi, lt i, .inr rfl⟩⟩
  have e : (i + 1) % m = (j + 1) % m := e
  by_cases h1 : i + 1 < m
  · rw [Nat.mod_eq_of_lt h1] at e
    by_cases h2 : j + 1 < m
    · rw [Nat.mod_eq_of_lt h2] at e; omega
    · have : j + 1 = m := by omega
      rw [this, Nat.mod_self] at e; omega
  · have h1' : i + 1 = m := by omega
    rw [h1', Nat.mod_self] at e
    by_cases h2 : j + 1 < m
    · rw [Nat.mod_eq_of_lt h2] at e; omega
    · omega
theorem two_only (hm : 5 ≤ m) {q : Nat → Nat} (h : IsP m (Ed m (slR m al a)) q) : (∀ i, i < m → q i = i) ∨ (∀ i, i < m → q i = (i + 1) % m) := by
  have two : ∀ i, i < m → q i = i ∨ q i = (i + 1) % m := fun i hi => (sl_ed.mp (h.at_ i hi)).2.2
  have step : ∀ i, i < m → q i = (i + 1) % m → q ((i + 1) % m) = ((i + 1) % m + 1) % m := fun i hi e => by
    have hlt : (i + 1) % m < m := Nat.mod_lt _ (by omega)
    rcases two _ hlt with k | k
    · exact absurd (h.inj _ _ hi hlt (by rw [e, k])).symm (nx_ne hm hi)
    · exact k
  by_cases hall : ∀ i, i < m → q i = i
  · exact .inl hall
  · right
    obtain ⟨i, hi⟩ := Classical.not_forall.mp hall
    obtain ⟨hi, hq⟩ := Classical.not_imp.mp hi
    have hq := (two i hi).resolve_left hq
    have go : ∀ k, q ((i + k) % m) = ((i + k) % m + 1) % m := by
      intro k
      induction k with
      | zero => rw [Nat.add_zero, Nat.mod_eq_of_lt hi]; exact hq
      | succ k ih =>
        have := step ((i + k) % m) (Nat.mod_lt _ (by omega)) ih
        have e : ((i + k) % m + 1) % m = (i + (k + 1)) % m := by rw [Nat.mod_add_mod]; rfl
        rw [e] at this
        exact this
    intro j hj
    have := go (m - i + j)
    have e : (i + (m - i + j)) % m = j := by
      rw [show i + (m - i + j) = j + m by omega, Nat.add_mod_right, Nat.mod_eq_of_lt hj]
    rwa [e] at this
theorem sl_ex (hm : 5 ≤ m) {i j : Nat} (hi : i < m) (hj : j < m) : ex (slR m al a) 0 i j = if j = (i + 1) % m then 2 else if j = i then slw al a i else 0 := by
  unfold ex slR
  rw [ce_mk hi hj]
  unfold slC
  split
  · rfl
  · split <;> rfl
theorem w_id (hm : 5 ≤ m) : W m (ex (slR m al a) 0) (fun i => i) = sm m (slw al a) := sm_same fun i hi => by
  rw [sl_ex hm hi hi, if_neg (fun e => nx_ne hm hi e.symm), if_pos rfl]
theorem w_nx (hm : 5 ≤ m) : W m (ex (slR m al a) 0) (fun i => (i + 1) % m) = sm m fun _ => 2 := sm_same fun i hi => by
  rw [sl_ex hm hi (Nat.mod_lt _ (by omega)), if_pos rfl]
theorem wP_one {q q' : Nat → Nat} : wP m 1 (slR m al a) q = wP m 1 (slR m al a) q' ↔ W m (ex (slR m al a) 0) q = W m (ex (slR m al a) 0) q' := by
  unfold wP
  rw [vec_iff]
  constructor
  · intro h; exact h 0 (by omega)
  · intro h k hk
    have : k = 0 := by omega
    subst this
    exact h
theorem Lot.nil {f : Fam} : Lot f [] := ⟨List.Pairwise.nil, by simp⟩
/-- alike: nothing is to be struck -/
theorem due_alike (hm : 5 ≤ m) (hal : al = true) {most : Nat} : Due (gf m 1 (slR m al a)) most (some []) := by
  have all : ∀ q, IsP m (Ed m (slR m al a)) q → wP m 1 (slR m al a) q = wP m 1 (slR m al a) fun i => i := fun q hq => by
    rcases two_only hm hq with h | h
    · exact wP_congr h
    · rw [wP_congr h, wP_one, w_id hm, w_nx hm]
      refine sm_same fun i _ => ?_
      unfold slw
      rw [if_pos (.inl hal)]
  refine ⟨Lot.nil, Nat.zero_le _, ⟨⟨_, _, ⟨_, id_pl hm, rfl, rfl⟩, fun x _ => by simp⟩, ?_⟩, fun S' _ _ => ⟨Nat.zero_le _, fun e => ?_⟩⟩
  · rintro l u l' u' ⟨q, hq, rfl, rfl⟩ ⟨q', hq', rfl, rfl⟩ _ _
    rw [all q hq, all q' hq']
  · rw [List.eq_nil_of_length_eq_zero e]
    exact llt_irr _
theorem live_pos {n b : Nat} {g : Gd} {x : C} (h : UL.live (gf n b g) x) : 0 ≤ x.1 ∧ 0 ≤ x.2 := by
  obtain ⟨l, u, ⟨q, _, rfl, _⟩, hx⟩ := h
  obtain ⟨i, _, rfl⟩ := mem_pcs.mp hx
  exact ⟨Int.natCast_nonneg _, Int.natCast_nonneg _⟩
/-- unlike: the least cell -/
theorem due_unlike (hm : 5 ≤ m) (ha : a < m) (hal : al = false) {most : Nat} (h1 : 1 ≤ most) : Due (gf m 1 (slR m al a)) most (some [(0, 0)]) := by
  have hw : W m (ex (slR m al a) 0) (fun i => i) ≠ W m (ex (slR m al a) 0) fun i => (i + 1) % m := by
    rw [w_id hm, w_nx hm, sm_one (x := a) m ha fun i _ hne => by unfold slw; rw [if_pos (.inr hne)]]
    unfold slw
    rw [if_neg (by simp [hal])]
    omega
  have idm : ((0, 0) : C) ∈ pcs m fun i => i := mem_pcs.mpr ⟨0, by omega, rfl⟩
  have nxm : ((0, 0) : C) ∉ pcs m fun i => (i + 1) % m := fun h => by
    obtain ⟨i, hi, e⟩ := mem_pcs.mp h
    have e1 := congrArg Prod.fst e
    have e2 := congrArg Prod.snd e
    simp only at e1 e2
    have : i = 0 := by omega
    subst this
    rw [Nat.mod_eq_of_lt (by omega)] at e2
    omega
  have none0 : ¬ enough (gf m 1 (slR m al a)) [] := fun h => hw (wP_one.mp (h.2 _ _ _ _ ⟨_, id_pl hm, rfl, rfl⟩ ⟨_, nx_pl hm, rfl, rfl⟩ (fun x _ => by simp) (fun x _ => by simp)))
  refine ⟨⟨List.pairwise_singleton _ _, fun x hx => ?_⟩, h1, ⟨⟨_, _, ⟨_, nx_pl hm, rfl, rfl⟩, fun x hx => ?_⟩, ?_⟩, fun S' hS he => ?_⟩
  · rw [List.mem_singleton] at hx
    subst hx
    exact ⟨_, _, ⟨_, id_pl hm, rfl, rfl⟩, idm⟩
  · rw [List.mem_singleton]
    intro e
    exact nxm (e ▸ hx)
  · rintro l u l' u' ⟨q, hq, rfl, rfl⟩ ⟨q', hq', rfl, rfl⟩ a1 a2
    have only : ∀ q, IsP m (Ed m (slR m al a)) q → avoids (pcs m q) [(0, 0)] → wP m 1 (slR m al a) q = wP m 1 (slR m al a) fun i => (i + 1) % m := fun q hq ha => by
      rcases two_only hm hq with h | h
      · exact absurd (List.mem_singleton.mpr rfl) (ha (0, 0) (by rw [pcs_congr h]; exact idm))
      · exact wP_congr h
    rw [only q hq a1, only q' hq' a2]
  · cases S' with
    | nil => exact absurd he none0
    | cons x S' =>
      refine ⟨by simp, fun e => ?_⟩
      have : S' = [] := List.eq_nil_of_length_eq_zero (by simpa using e)
      subst this
      have hx := live_pos (hS.live x List.mem_cons_self)
      rintro (h | ⟨_, h⟩)
      · unfold clt at h
        simp only at h
        omega
      · exact h
end
end UG
end
section
/-! Unitgrids, the law's slant and ring. -/
namespace UG
open PySem PySem.Spec PyProof.Rows L2 RZ UM UL NdefX LamX
theorem Hand.lst {H : Hp} {h l : Addr} {ns : List Int} {n : Nat} (x : Hand H h l ns n) : ∃ xs, H h = some (.lst xs) := let ⟨⟨_, _, _, _, e, _⟩, _⟩ := x; ⟨_, e⟩
theorem TabsN.bu {T : List NTab} {H H' : Hp} {h l : Addr} {ns : List Int} {n : Nat} (x : Hand H h l ns n) (b : Bu h H H') (t : TabsN T H) : TabsN T H' := fun p hp => by
  obtain ⟨xs, e⟩ := x.lst
  obtain ⟨ps, h1, h2, h3⟩ := t p hp
  have n1 : p.1 ≠ h := fun z => by rw [z, e] at h1; cases h1
  refine ⟨ps, b.1 _ _ n1 h1, h2, fun pos cv hc => ?_⟩
  obtain ⟨c, e1, e2⟩ := h3 pos cv hc
  have n2 : c ≠ h := fun z => by
    rw [z, e] at e2
    unfold CodeO at e2
    cases e2
  exact ⟨c, e1, b.1 _ _ n2 e2⟩
theorem Hand.ext {H H' : Hp} {h l : Addr} {ns : List Int} {n : Nat} (x : Hand H h l ns n) (e : ExtN H H') : Hand H' h l ns n := by
  obtain ⟨⟨a, b, c, d, e1, h1, h2⟩, e2, h3⟩ := x
  exact ⟨⟨a, b, c, d, e _ _ e1 (fun _ z => nomatch z), h1, h2⟩, e _ _ e2 (fun _ z => nomatch z), h3⟩
theorem IsG.bu {K : PySem.W.Frag} {H H' : Hp} {v : V} {b : Nat} {g : Gd} {h l : Addr} {ns : List Int} {n : Nat} (x : Hand H h l ns n) (k : Bu h H H') (y : IsG K H v b g) : IsG K H' v b g := by
  obtain ⟨xs, e⟩ := x.lst
  obtain ⟨p, dx, r, e1, h1, h2⟩ := y
  have ne : p ≠ h := fun z => by rw [z, e] at h1; cases h1
  exact ⟨p, dx, r, e1, k.1 _ _ ne h1, h2.tk k.2⟩
section
variable {P : Program} {w : World} {K : PySem.W.Frag} {mg : Str → Option Value} {base : Heap}
theorem depth_lot' (l : List C) : (lot l).depth ≤ 2 := depth_lot l
theorem sh_prs : ∀ l : List C, ((l.map pr).all fun d => PyData.canLay0 d) = true
  | [] => rfl
  | c :: l => by
    rw [List.map_cons, List.all_cons, sh_prs l, Bool.and_true]
    unfold pr
    rw [PyData.canLay0, canLayAll_eq]
    rfl
theorem sh_lot (l : List C) : SeqAt.shaped (lot l) = true := by
  unfold SeqAt.shaped
  rw [Bool.and_eq_true, decide_eq_true_eq]
  refine ⟨?_, ?_⟩
  · unfold lot
    rw [PyData.canLay0, canLayAll_eq]
    exact sh_prs l
  · have := depth_lot l
    omega
theorem r_gridA {H : Hp} {z : V} {b : Nat} {g : Gd} {E : XK} (hz : Is K H z (rws g)) (ok : OkG b g) : ∀ x dx, H x = none → H dx = none → dx ≠ x → ∀ R : VK, (∀ H', Same H H' → IsG K H' (.ref x) b g → R .non H') →
    sp_Grid_init K [.ref x, .int (b : Nat), z] (upd (upd H dx (.own x)) x (.ins (He.ga K "Grid") dx [])) R E := by
  intro x dx nx nd ne R q
  have s1 : Same H (upd (upd H dx (.own x)) x (.ins (He.ga K "Grid") dx [])) := ((same_upd nd).out nx)
  refine ⟨_, _, _, rfl, x, dx, b, g, rfl, upd_same, rfl, hz.same s1, ok, fun H' k e => ?_⟩
  have s2 : Same H H' := fun a o h => k a o (ne_of_none h nx) (s1 _ _ h)
  exact q _ s2 ⟨x, dx, z, rfl, e, hz.same s2⟩
/-- a unit of one whole exponent, made -/
theorem un_mk {H : Hp} {p p2 : Addr} {z : Int} (hz : z % 2 = 0) (n1 : H p = none) (n2 : upd H p (.tup [.int (z / 2), .int 1]) p2 = none) : Is K (upd (upd H p (.tup [.int (z / 2), .int 1])) p2 (.tup [.ref p])) (.ref p2) (un [z]) := by
  have h1 : Is K (upd H p (.tup [.int (z / 2), .int 1])) (.ref p) (fr z) := by
    unfold fr
    rw [if_pos hz]
    exact is_pair n1
  exact Is.mk n2 (.one h1)
theorem slC_row (m : Nat) (al : Bool) (a i : Nat) (hm : 5 ≤ m) (hi : i < m) : ((((List.range m).map fun _ => PyData.none).set i (un [slw al a i])).set ((i + 1) % m) (un [2])) = ((List.range m).map (slC m al a i)).map cel := by
  have hlt : (i + 1) % m < m := Nat.mod_lt _ (by omega)
  apply List.ext_getElem?
  intro j
  by_cases hj : j < m
  · rw [List.map_map, List.getElem?_map, List.getElem?_range hj]
    show _ = some (cel (slC m al a i j))
    unfold slC
    by_cases h1 : j = (i + 1) % m
    · rw [if_pos h1, h1, List.getElem?_set_self (by simp; exact hlt)]
      rfl
    · rw [if_neg h1, List.getElem?_set_ne (Ne.symm h1)]
      by_cases h2 : j = i
      · rw [if_pos h2, h2, List.getElem?_set_self (by simp; exact hi)]
        rfl
      · rw [if_neg h2, List.getElem?_set_ne (Ne.symm h2), List.getElem?_map, List.getElem?_range hj]
        rfl
  · rw [List.getElem?_eq_none_iff.mpr (by simp; omega), List.getElem?_eq_none_iff.mpr (by simp; omega)]
theorem IsA.nones (K : PySem.W.Frag) (H : Hp) (m : Nat) : IsA K H (List.replicate m .non) ((List.range m).map fun _ => PyData.none) := by
  rw [List.map_const', List.length_range]
  exact IsA.rep .non m
def sp_L_ring_right (K : PySem.W.Frag) (tb : Addr) : Sp := fun vs H Q _ => ∃ x, vs = [x] ∧ ∃ (h l : Addr) (ns : List Int) (n : Nat), x = .ref h ∧ Hand H h l ns n ∧ n < 30000 ∧ TabsN [(tb, fun _ _ => q_look)] H ∧
  ∀ H', Hand H' h l ns (n + 10) → TabsN [(tb, fun _ _ => q_look)] H' → Q (.bl true) H'
abbrev n_L_ring_right : List Str := ["_law_hand_here", "_law_many", "_law_alike", "_law_rows_here", "_law_at", "_law_i", "_law_row", "_law_told"]
theorem sc_L_ring_right : FnScope n_L_ring_right ["_law_hand_here"] (defScope s_L_ring_right) := ⟨rfl, rfl, rfl, by decide +kernel, rfl, by decide +kernel, by decide +kernel⟩
theorem ok_L_ring_right (T : Txt K mg) {c tb : Addr} (hC : HasC K mg c) (TB : TabB base mg c tb) : Ok P w K mg base "_law_ring_right" ["_law_hand_here"] 20 (sp_L_ring_right K tb) := by
  refine T.x_L_ring_right.ok sc_L_ring_right (fun _ _ _ _ _ _ us hl => match us, hl with | [_], _ => rfl) (fun vs H Q E h => by obtain ⟨_, rfl, _⟩ := h; rfl) (fun f cdv A outer s H vs Q E hr h => ?_)
  obtain ⟨_, rfl, h, l, ns, n, rfl, hh, hn, hT, q⟩ := h
  refine ⟨_, (pss_cons (ps_set (i := 1) sc_L_ring_right.nd rfl (.inl rfl) (pe_op op_add pe_int (pc (ok_L_draw T) hr rfl (pa_cons (pv 0) (pa_cons pe_int pa_nil)))))
    (pss_cons (ps_set (i := 2) sc_L_ring_right.nd rfl (.inl rfl) (pe_cmpR op_eq (pc (ok_L_draw T) hr rfl (pa_cons (pv 0) (pa_cons pe_int pa_nil))) pe_int (nomark _)))
    (pss_cons (ps_set (i := 3) sc_L_ring_right.nd rfl (.inl rfl) (pe_lst pa_nil))
    (pss_cons (ps_set (i := 4) sc_L_ring_right.nd rfl (.inl rfl) (pc (ok_L_draw T) hr rfl (pa_cons (pv 0) (pa_cons (pv 1) pa_nil))))
    (pss_cons (ps_for PassesOwn.never rfl (pi_range1 rfl T.b_range (pa_cons (pv 1) pa_nil)) (pg_name (i := 5) sc_L_ring_right.nd rfl (.inl rfl))
      (pss_cons (ps_set (i := 6) sc_L_ring_right.nd rfl (.inl rfl) (pe_op op_rep (pe_lst (pa_cons pe_non pa_nil)) (pv 1)))
      (pss_cons (ps_asg (pe_ifExp (PW.pt (pw_or (pt_val (pv 2)) (pw_or1 (pt_cmpR op_ne (pv 5) (pv 4) (nomark _))))) (pe_tup (pa_cons (pe_tup (pa_cons pe_int (pa_cons pe_int pa_nil))) pa_nil)) (pe_tup (pa_cons (pe_tup (pa_cons pe_int (pa_cons pe_int pa_nil))) pa_nil))) (pg_sub (pv 6) (pv 5) set_list))
      (pss_cons (ps_asg (pe_tup (pa_cons (pe_tup (pa_cons pe_int (pa_cons pe_int pa_nil))) pa_nil)) (pg_sub (pv 6) (pe_op op_mod (pe_callTy call_int1 (by rfl) T.b_int bt_int (pa_cons (pe_op op_add (pv 5) pe_int) pa_nil)) (pv 1)) set_list))
      (pss_one (ps_expr (pe_bm PySem.F.plainAttrs_list PySem.F.slot_list_append PySem.F.type_list_append mt_append (pv 3) (pa_cons (pe_callTy call_tuple_of (by rfl) T.b_tuple bt_tuple (pa_cons (pv 6) pa_nil)) pa_nil))))))))
    (pss_cons (ps_set (i := 7) sc_L_ring_right.nd rfl (.inl rfl) (pc (ok_fewest_struck T hC TB) hr rfl (pa_cons (pmk (ok_Grid_init T) T hr rfl (pa_cons pe_int (pa_cons (pe_callTy call_tuple_of (by rfl) T.b_tuple bt_tuple (pa_cons (pv 3) pa_nil)) pa_nil))) (pa_cons (pe_op op_add pe_int (pc (ok_L_draw T) hr rfl (pa_cons (pv 0) (pa_cons pe_int pa_nil)))) pa_nil))))
    (pss_one (ps_ret (pe_cmpR (op_eqD hr.units) (pv 7) (pe_ifExp (pt_val (pv 2)) (pe_tup pa_nil) (pe_tup (pa_cons (pe_tup (pa_cons pe_int (pa_cons pe_int pa_nil))) pa_nil))) (nomark _)))))))))), ?_⟩
  dsimp only [tVar, tC, tAdd, tSub, tMul, t2I, tCmp, tIsN, tNotN, tB, tAnd, tOr, tNot, tAndV, tOrV, tNotV, tIf, tSeq, tNext, tDrop, tRet, tRetN, tIfS, tAsg, tAug, tPar, gName, gNil, gCons, gSub, tOp, tUn, tTest, tChain, tCons, tNil, tTup, tLst, tCall, tCB, tMake, tFld, sFld, tNoPart, tPart, tSl, tBM, tBM0, rI0, rI, tYes, Cx.nox, Cx.blk, cxOf, List.nil_append, List.cons_append]
  refine ⟨_, rfl, _, _, rfl, h, l, ns, _, 6, rfl, hh, by omega, rfl, by omega, by omega, fun H1 d b1 h1 hd => ⟨_, _, rfl, rfl, ?_⟩⟩
  obtain ⟨m, hmd⟩ : ∃ m : Nat, m = 5 + d := ⟨_, rfl⟩
  have em : (5 : Int) + ((d : Nat) : Int) = (m : Nat) := by omega
  have hm5 : 5 ≤ m := by omega
  have hm10 : m ≤ 10 := by omega
  rw [em]
  refine ⟨_, rfl, _, _, rfl, h, l, ns, _, 2, rfl, h1, by omega, rfl, by omega, by omega, fun H2 d2 b2 h2 hd2 => ⟨rfl, ?_⟩⟩
  generalize decide (V.int ((d2 : Nat) : Int) = V.int 0) = al
  refine ⟨Nat.zero_le _, fun R nR => ⟨_, rfl, _, rfl, _, _, rfl, h, l, ns, _, m, rfl, h2.same (same_upd nR), by omega, rfl, by omega, by omega, fun H3 a b3 h3 ha => ?_⟩⟩
  have nRh := h2.ne nR
  have b23 : Bu h H2 H3 := ((Bu.refl h H2).new nR).trans b3.bu
  refine forF (B := nob) (feedR 0 m) (fun R r => ⟨_, rfl, _, rfl, by omega, by omega, r⟩)
    (fun i σ H' => ∃ y5 y6 y7, σ = [some (.ref h), some (.int (m : Nat)), some (.bl al), some (.ref R), some (.int (a : Nat)), y5, y6, y7] ∧ Bu h H2 H' ∧ Hand H' h l ns (n + 3) ∧ IsL K H' R ((List.range i).map fun i => row ((List.range m).map (slC m al a i))))
    ⟨_, _, _, rfl, b23, h3, (IsL.mk (K := K) nR .nil).bu b3.bu nRh⟩ (fun _ _ _ _ => nob_same _) (fun i x σ H4 H5 hi hP s it => ?_) (fun σ H4 hP => ?_)
  · obtain ⟨y5, y6, y7, rfl, b4, h4, hR⟩ := hP
    subst it
    have b5 := b4.trans (.same s)
    have h5 := h4.same s
    have hR5 := hR.same s
    have eR5 : H5 R ≠ none := by obtain ⟨_, e, _⟩ := hR5; rw [e]; simp
    dsimp only [gName]
    refine seq_by (fun σ' H' => ∃ p, σ' = [some (.ref h), some (.int (m : Nat)), some (.bl al), some (.ref R), some (.int (a : Nat)), some (.int (0 + (i : Nat))), some (.ref p), y7] ∧ Same H5 H' ∧ H5 p = none ∧ H' p = some (.lst (List.replicate m .non))) (fun N hN => ?_) (fun σ6 H6 hP => ?_)
    · dsimp only [tVar, tC, tAdd, tSub, tMul, t2I, tCmp, tIsN, tNotN, tB, tAnd, tOr, tNot, tAndV, tOrV, tNotV, tIf, tSeq, tNext, tDrop, tRet, tRetN, tIfS, tAsg, tAug, tPar, gName, gNil, gCons, gSub, tOp, tUn, tTest, tChain, tCons, tNil, tTup, tLst, tCall, tCB, tMake, tFld, sFld, tNoPart, tPart, tSl, tBM, tBM0, rI0, rI, tYes, Cx.nox, Cx.blk, cxOf, List.nil_append, List.cons_append]
      refine ⟨(show 1 ≤ sizeLine by decide), fun p np => ⟨_, rfl, p, _, [.non], rfl, rfl, upd_same, by omega, by omega, le_line (by simp; omega), fun p2 np2 => ?_⟩⟩
      refine hN _ _ ⟨p2, rfl, (same_upd np).trans (same_upd np2), (same_upd np).free np2, ?_⟩
      rw [upd_same]
      simp
    obtain ⟨p, rfl, s6, np5, ep⟩ := hP
    have nph : p ≠ h := h5.ne np5
    have npR : R ≠ p := fun z => eR5 (z ▸ np5)
    have h6 := h5.same s6
    refine seq_by (fun σ' H' => ∃ xs, σ' = [some (.ref h), some (.int (m : Nat)), some (.bl al), some (.ref R), some (.int (a : Nat)), some (.int (0 + (i : Nat))), some (.ref p), y7] ∧ Bu h H5 H' ∧ Hand H' h l ns (n + 3) ∧ IsL K H' R ((List.range i).map fun i => row ((List.range m).map (slC m al a i))) ∧ H' p = some (.lst xs) ∧ IsA K H' xs (((List.range m).map fun _ => PyData.none).set i (un [slw al a i]))) (fun N hN => ?_) (fun σ7 H7 hP => ?_)
    · dsimp only [tVar, tC, tAdd, tSub, tMul, t2I, tCmp, tIsN, tNotN, tB, tAnd, tOr, tNot, tAndV, tOrV, tNotV, tIf, tSeq, tNext, tDrop, tRet, tRetN, tIfS, tAsg, tAug, tPar, gName, gNil, gCons, gSub, tOp, tUn, tTest, tChain, tCons, tNil, tTup, tLst, tCall, tCB, tMake, tFld, sFld, tNoPart, tPart, tSl, tBM, tBM0, rI0, rI, tYes, Cx.nox, Cx.blk, cxOf, List.nil_append, List.cons_append]
      have fin : ∀ H7 v, Same H6 H7 → Is K H7 v (un [slw al a i]) → rSetL (.ref p) (.int (0 + ((i : Nat) : Int))) v H7 fun H8 => N [some (.ref h), some (.int (m : Nat)), some (.bl al), some (.ref R), some (.int (a : Nat)), some (.int (0 + (i : Nat))), some (.ref p), y7] H8 := fun H7 v s7 hv => by
        have e7 := s7 _ _ ep
        rw [Int.zero_add]
        refine ⟨p, _, _, i, rfl, rfl, e7, by rw [List.length_replicate]; exact ixN_nat hi, ?_⟩
        rw [Int.zero_add] at hN
        exact hN _ _ ⟨_, rfl, (Bu.same (s6.trans s7)).put np5 e7, h5.out (h6.same s7) np5, ((hR5.same s6).same s7).ne (Tk.lst e7) npR, upd_same, ((IsA.nones K H7 m).set hv i).tk (Tk.lst e7)⟩
      have fin2 : ∀ z : Int, z % 2 = 0 → z = slw al a i → ∀ pA, H6 pA = none → ∀ pB, upd H6 pA (.tup [.int (z / 2), .int 1]) pB = none → rSetL (.ref p) (.int (0 + ((i : Nat) : Int))) (.ref pB) (upd (upd H6 pA (.tup [.int (z / 2), .int 1])) pB (.tup [.ref pA])) fun H8 => N [some (.ref h), some (.int (m : Nat)), some (.bl al), some (.ref R), some (.int (a : Nat)), some (.int (0 + (i : Nat))), some (.ref p), y7] H8 := fun z hz ez pA nA pB nB =>
        fin _ _ ((same_upd nA).trans (same_upd nB)) (by rw [← ez]; exact un_mk hz nA nB)
      have w2 : al = true ∨ i ≠ a → (2 : Int) = slw al a i := fun h => by unfold slw; rw [if_pos h]
      refine ⟨_, rfl, _, rfl, ?_⟩
      by_cases hal : al = true
      · exact ifT hal (ifT rfl ⟨two_le2 _ _, fun pA nA => ⟨(show 1 ≤ sizeLine by decide), fun pB nB => ⟨_, rfl, _, rfl, fin2 2 rfl (w2 (.inl hal)) pA nA pB nB⟩⟩⟩)
      · refine ifF (by simpa using hal) ⟨_, rfl, _, rfl, rfl, _, rfl, ?_⟩
        by_cases hia : i = a
        · have w4 : (4 : Int) = slw al a i := by unfold slw; rw [if_neg (by simp [hal, hia])]
          exact ifF (by rw [hia]; simp) ⟨two_le2 _ _, fun pA nA => ⟨(show 1 ≤ sizeLine by decide), fun pB nB => ⟨_, rfl, _, rfl, fin2 4 rfl w4 pA nA pB nB⟩⟩⟩
        · exact ifT (by simp; omega) ⟨two_le2 _ _, fun pA nA => ⟨(show 1 ≤ sizeLine by decide), fun pB nB => ⟨_, rfl, _, rfl, fin2 2 rfl (w2 (.inr hia)) pA nA pB nB⟩⟩⟩
    obtain ⟨xs, rfl, b7, h7, hR7, ex7, hxs⟩ := hP
    have hxl : xs.length = m := by rw [hxs.length, List.length_set, List.length_map, List.length_range]
    dsimp only [tVar, tC, tAdd, tSub, tMul, t2I, tCmp, tIsN, tNotN, tB, tAnd, tOr, tNot, tAndV, tOrV, tNotV, tIf, tSeq, tNext, tDrop, tRet, tRetN, tIfS, tAsg, tAug, tPar, gName, gNil, gCons, gSub, tOp, tUn, tTest, tChain, tCons, tNil, tTup, tLst, tCall, tCB, tMake, tFld, sFld, tNoPart, tPart, tSl, tBM, tBM0, rI0, rI, tYes, Cx.nox, Cx.blk, cxOf, List.nil_append, List.cons_append]
    refine ⟨two_le2 _ _, fun pA nA => ⟨(show 1 ≤ sizeLine by decide), fun pB nB => ⟨_, rfl, _, rfl, _, _, rfl, rfl, .inl ⟨_, rfl, _, rfl, _, _, rfl, rfl, by omega, ?_⟩⟩⟩⟩
    have s8 : Same H7 (upd (upd H7 pA (.tup [.int 1, .int 1])) pB (.tup [.ref pA])) := (same_upd nA).trans (same_upd nB)
    have hu : Is K (upd (upd H7 pA (.tup [.int 1, .int 1])) pB (.tup [.ref pA])) (.ref pB) (un [2]) := un_mk (z := 2) rfl nA nB
    generalize upd (upd H7 pA (.tup [.int 1, .int 1])) pB (.tup [.ref pA]) = H8 at s8 hu ⊢
    have e8 := s8 _ _ ex7
    have emod : ((0 : Int) + ((i : Nat) : Int) + 1) % ((m : Nat) : Int) = (((i + 1) % m : Nat) : Int) := by rw [Int.natCast_emod, Int.zero_add]; rfl
    refine ⟨p, xs, _, (i + 1) % m, rfl, rfl, e8, by rw [hxl, emod]; exact ixN_nat (Nat.mod_lt _ (by omega)), ?_⟩
    have hrow := ((hxs.same s8).set hu ((i + 1) % m)).tk (Tk.lst (o := .lst (xs.set ((i + 1) % m) (.ref pB))) e8)
    rw [slC_row m al a i hm5 hi] at hrow
    have b9 : Bu h H5 (upd H8 p (.lst (xs.set ((i + 1) % m) (.ref pB)))) := (b7.trans (.same s8)).put np5 e8
    have h9 : Hand (upd H8 p (.lst (xs.set ((i + 1) % m) (.ref pB)))) h l ns (n + 3) := h5.out (h7.same s8) np5
    have hR9 : IsL K (upd H8 p (.lst (xs.set ((i + 1) % m) (.ref pB)))) R _ := (hR7.same s8).ne (Tk.lst e8) npR
    refine ⟨_, rfl, hR9.ty, _, rfl, p, _, rfl, .inl ⟨SqL.of upd_same, fun pT nT => ?_⟩⟩
    refine r_appU ((b5.trans b9).new nT) nR h2 (h9.same (same_upd nT)) (hR9.same (same_upd nT)) (Is.mk (ds := ((List.range m).map (slC m al a i)).map cel) nT hrow) (by simp; omega) fun H10 b10 h10 hR10 => ?_
    refine ⟨_, _, _, rfl, b10, h10, ?_⟩
    rw [List.range_succ, List.map_append]
    exact hR10
  · obtain ⟨y5, y6, y7, rfl, b4, h4, hR⟩ := hP
    dsimp only [tVar, tC, tAdd, tSub, tMul, t2I, tCmp, tIsN, tNotN, tB, tAnd, tOr, tNot, tAndV, tOrV, tNotV, tIf, tSeq, tNext, tDrop, tRet, tRetN, tIfS, tAsg, tAug, tPar, gName, gNil, gCons, gSub, tOp, tUn, tTest, tChain, tCons, tNil, tTup, tLst, tCall, tCB, tMake, tFld, sFld, tNoPart, tPart, tSl, tBM, tBM0, rI0, rI, tYes, Cx.nox, Cx.blk, cxOf, List.nil_append, List.cons_append]
    have b04 : Bu h H H4 := (b1.bu.trans b2.bu).trans b4
    have ok : OkG 1 (slR m al a) := slR_ok hm5 hm10
    have hlen : (slR m al a).length = m := slR_len
    obtain ⟨zs, ez, hzs⟩ := hR
    refine ⟨_, rfl, R, zs, rfl, .inl ⟨SqL.of ez, fun p np x dx nx ndx nxd => ?_⟩⟩
    have hz : Is K (upd H4 p (.tup zs)) (.ref p) (rws (slR m al a)) := by
      have e : rws (slR m al a) = .tuple ((List.range m).map fun i => row ((List.range m).map (slC m al a i))) := by
        unfold rws slR mk
        rw [List.map_map]
        rfl
      rw [e]
      exact Is.mk np hzs
    refine r_gridA (b := 1) hz ok x dx nx ndx nxd _ fun H5 s5 hg => ⟨rfl, ?_⟩
    have b5 : Bu h H H5 := (b04.new np).trans (.same s5)
    have h5 : Hand H5 h l ns (n + 3) := (h4.same (same_upd np)).same s5
    refine ⟨_, rfl, _, _, rfl, h, l, ns, _, 3, rfl, h5, by omega, rfl, by omega, by omega, fun H6 d6 b6 h6 hd6 => ⟨_, _, rfl, rfl, ?_⟩⟩
    have b06 := b5.trans b6.bu
    refine ⟨_, _, rfl, 1, slR m al a, 1 + d6, IsG.bu h5 b6.bu hg, ok, by simp, by omega, TabsN.bu hh b06 hT, fun H7 v x7 hT7 hv => ?_⟩
    rw [hlen] at hv
    have h7 := h6.ext x7
    have fin : ∀ H8 S, Due (gf m 1 (slR m al a)) (1 + d6) (some S) → Same H7 H8 → ∀ p, Is K H8 (.ref p) (lot S) → rEqD K v (.ref p) H8 Q := fun H8 S hS s8 p hp => by
      have hv' : Is K H7 v (lot S) := by
        rcases hv with ⟨_, hd⟩ | ⟨S', hv', hd⟩
        · exact nomatch hd.one hS
        · have := hd.one hS
          cases this
          exact hv'
      refine r_eq (hv'.same s8) hp (sh_lot S) (sh_lot S) ?_
      rw [lot_eqv, decide_eq_true rfl]
      exact q _ ((h7.same s8).up (by omega)) (hT7.ext s8)
    refine ⟨_, rfl, _, rfl, _, rfl, ?_⟩
    by_cases hal : al = true
    · exact ifT hal ⟨Nat.zero_le _, fun p1 np1 => fin _ [] (due_alike hm5 hal) (same_upd np1) p1 (Is.mk np1 .nil)⟩
    · have hal : al = false := by simpa using hal
      refine ifF hal ⟨two_le2 _ _, fun p1 np1 => ⟨(show 1 ≤ sizeLine by decide), fun p2 np2 => fin _ [(0, 0)] (due_unlike hm5 ha hal (by omega)) ((same_upd np1).trans (same_upd np2)) p2 (Is.mk np2 (.one (is_pair np1)))⟩⟩
end
end UG
end
section
/-! Unitgrids, the law. -/
namespace UG
open PySem PySem.Spec PyProof.Rows L2 RZ UM UL NdefX LamX
section
variable {P : Program} {w : World} {K : PySem.W.Frag} {mg : Str → Option Value} {base : Heap}
theorem LeastV.tk {H H' : Hp} {f : Fam} {most : Nat} {v : V} (t : Tk H H') (h : LeastV K H f most v) : LeastV K H' f most v := by
  rcases h with h | ⟨S, h1, h2⟩
  · exact .inl h
  · exact .inr ⟨S, h1.tk t, h2⟩
theorem tyx_tup {H : Hp} {v : V} {ds : List PyData} (h : Is K H v (.tuple ds)) : TyX K H v (.type "tuple") := by
  obtain ⟨a, xs, rfl, (r | ⟨o, r⟩) | ⟨o, its, n, e, c, _⟩, _⟩ := h.tup_ex
  · exact .base (.tup r)
  · exact .fTuple r
  · exact .kTuple e c
def sp_law (K : PySem.W.Frag) (tb : Addr) : Sp := fun vs H Q _ => ∃ x, vs = [x] ∧ ∃ (l : Addr) (ns : List Int), x = .ref l ∧ SqL K H l (ns.map V.int) ∧ ns.length ≤ 63 ∧ TabsN [(tb, fun _ _ => q_look)] H ∧ ∀ H', Q (.bl true) H'
abbrev n_law : List Str := ["_law_script", "_law_hand_here", "_law_turn", "_law_parts", "_law_most", "_law_bases", "_law_grid", "_law_due_here", "_law_told"]
theorem sc_law : FnScope n_law ["_law_script"] (defScope s_law) := ⟨rfl, rfl, rfl, by decide +kernel, rfl, by decide +kernel, by decide +kernel⟩
theorem law_body (T : Txt K mg) {c tb : Addr} (hC : HasC K mg c) (TB : TabB base mg c tb) (f : Addr) (cdv : Value) (A : Around) (outer : List Env) (s : Shared) (H : Hp) (vs : List V) (Q : VK) (E : XK) (hr : Room 20 (A.deeper (envOfC "law" (defScope s_law) s.heap.objs.size f cdv))) (h : sp_law K tb vs H Q E) :
    ∃ t, PSs (cxOf CX0 P w K mg base n_law "law" (defScope s_law) f cdv A outer s H E).nox (defBody s_law) t ∧ t { nx := fun _ H' => Q .non H', rt := Q } (start n_law vs) H := by
  obtain ⟨_, rfl, l0, ns0, rfl, hl, hn, hT, q⟩ := h
  refine ⟨_, (pss_cons (ps_set (i := 1) sc_law.nd rfl (.inl rfl) (pc (ok_L_hand T) hr rfl (pa_cons (pv 0) pa_nil)))
    (pss_cons (ps_if (PW.pt (pw_and (pt_cmpR op_eq (pc (ok_L_draw T) hr rfl (pa_cons (pv 1) (pa_cons pe_int pa_nil))) pe_int (nomark _)) (pw_and1 (pt_not (pt_val (pc (ok_L_ring_right T hC TB) hr rfl (pa_cons (pv 1) pa_nil)))))))
      (pss_one (ps_ret pe_bl))
      pss_nil)
    (pss_cons (ps_for PassesOwn.never rfl (pi_range1 rfl T.b_range (pa_cons pe_int pa_nil)) (pg_name (i := 2) sc_law.nd rfl (.inl rfl))
      (pss_cons (ps_set (i := 3) sc_law.nd rfl (.inl rfl) (pc (ok_L_drawn T) hr rfl (pa_cons (pv 1) (pa_cons pe_int pa_nil))))
      (pss_cons (ps_set (i := 4) sc_law.nd rfl (.inl rfl) (pc (ok_L_draw T) hr rfl (pa_cons (pv 1) (pa_cons pe_int pa_nil))))
      (pss_cons (ps_if (pt_cmpR op_eq (pc (ok_L_draw T) hr rfl (pa_cons (pv 1) (pa_cons pe_int pa_nil))) pe_int (nomark _))
        (pss_cons (ps_set (i := 5) sc_law.nd rfl (.inl rfl) (pe_op op_add pe_int (pc (ok_L_draw T) hr rfl (pa_cons (pv 1) (pa_cons pe_int pa_nil)))))
        (pss_one (ps_par (i := 3) (j := 4) rfl sc_law.nd rfl rfl (by decide) rfl rfl (pa_cons (pe_tup (pa_cons (pv 5) (pa_cons (pc (ok_L_rows T) hr rfl (pa_cons (pv 1) (pa_cons pe_int (pa_cons (pv 5) pa_nil)))) pa_nil))) (pa_cons (pc (ok_L_draw T) hr rfl (pa_cons (pv 1) (pa_cons pe_int pa_nil))) pa_nil)) (by rfl))))
        pss_nil)
      (pss_cons (ps_set (i := 6) sc_law.nd rfl (.inl rfl) (pc (ok_L_made T) hr rfl (pa_cons (pv 3) pa_nil)))
      (pss_cons (ps_set (i := 7) sc_law.nd rfl (.inl rfl) (pc (ok_L_due T) hr rfl (pa_cons (pv 3) (pa_cons (pv 4) pa_nil))))
      (pss_cons (ps_set (i := 8) sc_law.nd rfl (.inl rfl) (pc (ok_fewest_struck T hC TB) hr rfl (pa_cons (pv 6) (pa_cons (pv 4) pa_nil))))
      (pss_cons (ps_if (PW.pt (pw_or (pt_cmpR (op_neD hr.units) (pv 8) (pv 7) (nomark _)) (pw_or1 (PW.pt (pw_and (pt_cmp (pc_notN (pv 7))) (pw_and1 (pt_not (pt_val (pe_callB call_isi (by rfl) T.b_isinstance bt_isinstance (pa_cons (pv 8) (pa_cons (pe_bltn (v := .ty "tuple") rfl T.b_tuple bt_tuple rfl) pa_nil)))))))))))
        (pss_one (ps_ret pe_bl))
        pss_nil)
      (pss_one (ps_if (PW.pt (pw_and (pt_cmp (pc_notN (pv 7))) (pw_and1 (pt_cmpR (op_neD hr.units) (pc (ok_fewest_struck T hC TB) hr rfl (pa_cons (pv 6) (pa_cons pe_int pa_nil))) (pv 7) (nomark _)))))
        (pss_one (ps_ret pe_bl))
        pss_nil))))))))))
    (pss_one (ps_ret pe_bl))))), ?_⟩
  refine seq_by (fun σ' H' => ∃ h l ns y2 y3 y4 y5 y6 y7 y8, σ' = [some (.ref l0), some (.ref h), y2, y3, y4, y5, y6, y7, y8] ∧ Hand H' h l ns 0 ∧ TabsN [(tb, fun _ _ => q_look)] H') (fun N hN => ?_) (fun σ1 H1 hP => ?_)
  · dsimp only [tVar, tC, tAdd, tSub, tMul, t2I, tCmp, tIsN, tNotN, tB, tAnd, tOr, tNot, tAndV, tOrV, tNotV, tIf, tSeq, tNext, tDrop, tRet, tRetN, tIfS, tAsg, tAug, tPar, gName, gNil, gCons, gSub, tOp, tUn, tTest, tChain, tCons, tNil, tTup, tLst, tCall, tCB, tMake, tFld, sFld, tNoPart, tPart, tSl, tBM, tBM0, rI0, rI, tYes, Cx.nox, Cx.blk, cxOf, List.nil_append, List.cons_append]
    exact ⟨_, rfl, _, rfl, l0, ns0, rfl, hl, hn, fun H1 h l ns s1 nh hh => hN _ _ ⟨h, l, ns, _, _, _, _, _, _, _, rfl, hh, hT.ext s1⟩⟩
  obtain ⟨h, l, ns, y2, y3, y4, y5, y6, y7, y8, rfl, hh, hT1⟩ := hP
  refine seq_by (fun σ' H' => ∃ y2 y3 y4 y5 y6 y7 y8, σ' = [some (.ref l0), some (.ref h), y2, y3, y4, y5, y6, y7, y8] ∧ Hand H' h l ns 20 ∧ TabsN [(tb, fun _ _ => q_look)] H') (fun N hN => ?_) (fun σ2 H2 hP => ?_)
  · dsimp only [tVar, tC, tAdd, tSub, tMul, t2I, tCmp, tIsN, tNotN, tB, tAnd, tOr, tNot, tAndV, tOrV, tNotV, tIf, tSeq, tNext, tDrop, tRet, tRetN, tIfS, tAsg, tAug, tPar, gName, gNil, gCons, gSub, tOp, tUn, tTest, tChain, tCons, tNil, tTup, tLst, tCall, tCB, tMake, tFld, sFld, tNoPart, tPart, tSl, tBM, tBM0, rI0, rI, tYes, Cx.nox, Cx.blk, cxOf, List.nil_append, List.cons_append]
    refine ⟨_, rfl, _, _, rfl, h, l, ns, 0, 8, rfl, hh, by omega, rfl, by omega, by omega, fun H2 d b2 h2 hd => ⟨rfl, _, rfl, ?_⟩⟩
    have hT2 := TabsN.bu hh b2.bu hT1
    by_cases h0 : d = 0
    · refine ifT (by rw [h0]; rfl) ⟨_, rfl, _, rfl, h, l, ns, _, rfl, h2, by omega, hT2, fun H3 h3 hT3 => ⟨_, rfl, ifF rfl (hN _ _ ⟨_, _, _, _, _, _, _, rfl, h3.up (by omega), hT3⟩)⟩⟩
    · exact ifF (dec_f fun e => h0 (by injection e with e; omega)) (ifF (by decide) (hN _ _ ⟨_, _, _, _, _, _, _, rfl, h2.up (by omega), hT2⟩))
  obtain ⟨y2, y3, y4, y5, y6, y7, y8, rfl, h2, hT2⟩ := hP
  dsimp only [tVar, tC, tAdd, tSub, tMul, t2I, tCmp, tIsN, tNotN, tB, tAnd, tOr, tNot, tAndV, tOrV, tNotV, tIf, tSeq, tNext, tDrop, tRet, tRetN, tIfS, tAsg, tAug, tPar, gName, gNil, gCons, gSub, tOp, tUn, tTest, tChain, tCons, tNil, tTup, tLst, tCall, tCB, tMake, tFld, sFld, tNoPart, tPart, tSl, tBM, tBM0, rI0, rI, tYes, Cx.nox, Cx.blk, cxOf, List.nil_append, List.cons_append]
  refine forF (B := nob) (feedR 0 2) (fun R r => ⟨_, rfl, by omega, by omega, r⟩)
    (fun i σ H' => ∃ y2 y3 y4 y5 y6 y7 y8, σ = [some (.ref l0), some (.ref h), y2, y3, y4, y5, y6, y7, y8] ∧ Hand H' h l ns (20 + 1000 * i) ∧ TabsN [(tb, fun _ _ => q_look)] H')
    ⟨_, _, _, _, _, _, _, rfl, h2, hT2⟩ (fun _ _ _ _ => nob_same _) (fun i x σ H3 H4 hi hP s it => ?_) (fun σ H3 hP => ?_)
  · obtain ⟨y2, y3, y4, y5, y6, y7, y8, rfl, h3, hT3⟩ := hP
    have h4 := h3.same s
    have hT4 := hT3.ext s
    dsimp only [gName]
    refine seq_by (fun σ' H' => ∃ vp b g, σ' = [some (.ref l0), some (.ref h), some x, some vp, y4, y5, y6, y7, y8] ∧ Hand H' h l ns (20 + 1000 * i + 140) ∧ TabsN [(tb, fun _ _ => q_look)] H' ∧ Is K H' vp (parts b g) ∧ OkG b g ∧ g.length ≤ 4) (fun N hN => ?_) (fun σ5 H5 hP => ?_)
    · dsimp only [tVar, tC, tAdd, tSub, tMul, t2I, tCmp, tIsN, tNotN, tB, tAnd, tOr, tNot, tAndV, tOrV, tNotV, tIf, tSeq, tNext, tDrop, tRet, tRetN, tIfS, tAsg, tAug, tPar, gName, gNil, gCons, gSub, tOp, tUn, tTest, tChain, tCons, tNil, tTup, tLst, tCall, tCB, tMake, tFld, sFld, tNoPart, tPart, tSl, tBM, tBM0, rI0, rI, tYes, Cx.nox, Cx.blk, cxOf, List.nil_append, List.cons_append]
      refine ⟨_, rfl, _, _, rfl, h, l, ns, _, 3, rfl, h4, by omega, rfl, by omega, by omega, fun H5 v b g b5 h5 ok hgl hv => hN _ _ ⟨v, b, g, rfl, h5, TabsN.bu h4 b5 hT4, hv, ok, hgl⟩⟩
    obtain ⟨vp, b, g, rfl, h5, hT5, hvp, ok, hgl⟩ := hP
    refine seq_by (fun σ' H' => ∃ most : Nat, σ' = [some (.ref l0), some (.ref h), some x, some vp, some (.int (most : Nat)), y5, y6, y7, y8] ∧ Hand H' h l ns (20 + 1000 * i + 141) ∧ TabsN [(tb, fun _ _ => q_look)] H' ∧ Is K H' vp (parts b g) ∧ most ≤ 3) (fun N hN => ?_) (fun σ6 H6 hP => ?_)
    · dsimp only [tVar, tC, tAdd, tSub, tMul, t2I, tCmp, tIsN, tNotN, tB, tAnd, tOr, tNot, tAndV, tOrV, tNotV, tIf, tSeq, tNext, tDrop, tRet, tRetN, tIfS, tAsg, tAug, tPar, gName, gNil, gCons, gSub, tOp, tUn, tTest, tChain, tCons, tNil, tTup, tLst, tCall, tCB, tMake, tFld, sFld, tNoPart, tPart, tSl, tBM, tBM0, rI0, rI, tYes, Cx.nox, Cx.blk, cxOf, List.nil_append, List.cons_append]
      refine ⟨_, rfl, _, _, rfl, h, l, ns, _, 4, rfl, h5, by omega, rfl, by omega, by omega, fun H6 d b6 h6 hd => hN _ _ ⟨d, rfl, h6, TabsN.bu h5 b6.bu hT5, hvp.tk b6.2.1, by omega⟩⟩
    obtain ⟨most, rfl, h6, hT6, hvp, hmost⟩ := hP
    refine seq_by (fun σ' H' => ∃ vp b g y5 most, σ' = [some (.ref l0), some (.ref h), some x, some vp, some (.int ((most : Nat) : Int)), y5, y6, y7, y8] ∧ Hand H' h l ns (20 + 1000 * i + 500) ∧ TabsN [(tb, fun _ _ => q_look)] H' ∧ Is K H' vp (parts b g) ∧ OkG b g ∧ g.length ≤ 4 ∧ most ≤ 3) (fun N hN => ?_) (fun σ7 H7 hP => ?_)
    · dsimp only [tVar, tC, tAdd, tSub, tMul, t2I, tCmp, tIsN, tNotN, tB, tAnd, tOr, tNot, tAndV, tOrV, tNotV, tIf, tSeq, tNext, tDrop, tRet, tRetN, tIfS, tAsg, tAug, tPar, gName, gNil, gCons, gSub, tOp, tUn, tTest, tChain, tCons, tNil, tTup, tLst, tCall, tCB, tMake, tFld, sFld, tNoPart, tPart, tSl, tBM, tBM0, rI0, rI, tYes, Cx.nox, Cx.blk, cxOf, List.nil_append, List.cons_append]
      refine ⟨_, rfl, _, _, rfl, h, l, ns, _, 8, rfl, h6, by omega, rfl, by omega, by omega, fun H7 d b7 h7 hd => ⟨rfl, _, rfl, ?_⟩⟩
      have hT7 := TabsN.bu h6 b7.bu hT6
      by_cases h0 : d = 0
      · refine ifT (by rw [h0]; rfl) ⟨_, rfl, _, _, rfl, h, l, ns, _, 2, rfl, h7, by omega, rfl, by omega, by omega, fun H8 d2 b8 h8 hd2 => ⟨_, _, rfl, rfl, _, rfl, _, rfl, _, rfl, ?_⟩⟩
        refine ⟨_, _, _, rfl, h, l, ns, _, 4, 1 + d2, rfl, h8, by omega, rfl, by omega, by omega, by simp, by omega, by omega, fun H9 v g b9 h9 ok hgl hv => ⟨two_le2 _ _, fun p np => ⟨_, rfl, ?_⟩⟩⟩
        have h9' := h9.same (same_upd (o := .tup [.int (1 + ((d2 : Nat) : Int)), v]) np)
        refine ⟨_, _, rfl, h, l, ns, _, 3, rfl, h9', by omega, rfl, by omega, by omega, fun H10 d3 b10 h10 hd3 => ⟨_, _, rfl, hN _ _ ⟨_, 1 + d2, g, _, d3, rfl, h10.up (by omega), ?_, ?_, ok, by omega, by omega⟩⟩⟩
        · exact TabsN.bu h9' b10.bu (TabsN.ext (TabsN.bu h8 b9 (TabsN.bu h7 b8.bu hT7)) (same_upd np))
        · refine Is.tk b10.2.1 ?_
          have := Is.mk (K := K) (xs := [.int ((1 + d2 : Nat) : Int), v]) np (.cons (.int _) (.cons hv .nil))
          rw [Int.natCast_add] at this
          exact this
      · exact ifF (dec_f fun e => h0 (by injection e with e; omega)) (hN _ _ ⟨vp, b, g, _, most, rfl, h7.up (by omega), hT7, hvp.tk b7.2.1, ok, hgl, hmost⟩)
    obtain ⟨vp, b, g, y5, most, rfl, h7, hT7, hvp, ok, hgl, hmost⟩ := hP
    dsimp only [tVar, tC, tAdd, tSub, tMul, t2I, tCmp, tIsN, tNotN, tB, tAnd, tOr, tNot, tAndV, tOrV, tNotV, tIf, tSeq, tNext, tDrop, tRet, tRetN, tIfS, tAsg, tAug, tPar, gName, gNil, gCons, gSub, tOp, tUn, tTest, tChain, tCons, tNil, tTup, tLst, tCall, tCB, tMake, tFld, sFld, tNoPart, tPart, tSl, tBM, tBM0, rI0, rI, tYes, Cx.nox, Cx.blk, cxOf, List.nil_append, List.cons_append]
    refine ⟨_, rfl, _, rfl, b, g, hvp, ok, fun H8 vg s8 hg => ?_⟩
    refine ⟨_, rfl, _, rfl, _, _, rfl, b, g, most, hvp.same s8, ok, hgl, rfl, hmost, fun H9 vd s9 hd => ?_⟩
    have hT9 := (hT7.ext s8).ext s9
    have hg9 := hg.same s9
    have h9 := (h7.same s8).same s9
    refine ⟨_, rfl, _, rfl, _, _, rfl, b, g, most, hg9, ok, rfl, hmost, hT9, fun H10 vt x10 hT10 ht => ?_⟩
    have hd10 := LeastV.tk (extN_tk x10) hd
    have h10 := h9.ext x10
    have hg10 := hg9.ext x10
    refine ⟨_, rfl, _, rfl, ?_⟩
    have sh0 : SeqAt.shaped .none = true := by decide
    rcases hd10 with ⟨rfl, hdue⟩ | ⟨S, hvd, hdue⟩
    · have ht0 : vt = .non := by
        rcases ht with ⟨e, _⟩ | ⟨S', _, hd'⟩
        · exact e
        · exact nomatch hdue.one hd'
      subst ht0
      refine r_ne (d := .none) (e := .none) .non .non sh0 sh0 ⟨_, rfl, ifF (by decide) ⟨_, rfl, _, rfl, ifF (by decide) (ifF (by decide) ⟨_, rfl, _, rfl, ifF (by decide) (ifF (by decide) ?_)⟩)⟩⟩
      exact ⟨_, _, _, _, _, _, _, rfl, h10.up (by omega), hT10⟩
    · have hvt : Is K H10 vt (lot S) := by
        rcases ht with ⟨_, hd'⟩ | ⟨S', hv', hd'⟩
        · exact nomatch hd'.one hdue
        · have := hd'.one hdue
          cases this
          exact hv'
      have enn : (!decide (vd = V.non)) = true := by rw [decide_eq_false hvd.notNon]; rfl
      refine r_ne hvt hvd (sh_lot S) (sh_lot S) ⟨_, rfl, ifF (by rw [lot_eqv, decide_eq_true rfl]; rfl) ⟨_, rfl, _, rfl, ifT enn ⟨_, rfl, ?_⟩⟩⟩
      refine ⟨vt, _, _, _, true, rfl, .ty "tuple", tyx_tup hvt, by unfold PySem.W.kitOne; rw [if_pos (beq_self_eq_true _)], _, rfl, ifF rfl ⟨_, rfl, _, rfl, ifT enn ⟨_, rfl, ?_⟩⟩⟩
      refine ⟨_, _, rfl, b, g, 3, hg10, ok, rfl, Nat.le_refl _, hT10, fun H11 v3 x11 hT11 hv3 => ⟨_, rfl, ?_⟩⟩
      have hv3' : Is K H11 v3 (lot S) := by
        have hmore := hdue.more hmost
        rcases hv3 with ⟨_, hd'⟩ | ⟨S', hv', hd'⟩
        · exact nomatch hd'.one hmore
        · have := hd'.one hmore
          cases this
          exact hv'
      refine r_ne hv3' (hvd.tk (extN_tk x11)) (sh_lot S) (sh_lot S) ⟨_, rfl, ifF (by rw [lot_eqv, decide_eq_true rfl]; rfl) ?_⟩
      exact ⟨_, _, _, _, _, _, _, rfl, (h10.ext x11).up (by omega), hT11⟩
  · obtain ⟨y2, y3, y4, y5, y6, y7, y8, rfl, h3, hT3⟩ := hP
    dsimp only [tVar, tC, tAdd, tSub, tMul, t2I, tCmp, tIsN, tNotN, tB, tAnd, tOr, tNot, tAndV, tOrV, tNotV, tIf, tSeq, tNext, tDrop, tRet, tRetN, tIfS, tAsg, tAug, tPar, gName, gNil, gCons, gSub, tOp, tUn, tTest, tChain, tCons, tNil, tTup, tLst, tCall, tCB, tMake, tFld, sFld, tNoPart, tPart, tSl, tBM, tBM0, rI0, rI, tYes, Cx.nox, Cx.blk, cxOf, List.nil_append, List.cons_append]
    exact q _
theorem fn_law (T : Txt K mg) {c tb f : Addr} {fd : FuncData} (F : FunD K "law" "law" (defArgs s_law) (defBody s_law) (defScope s_law) [] [] f fd) (hC : HasC K mg c) (TB : TabB base mg c tb) : FnOk P w K mg base CX0 21 f fd ["_law_script"] (sp_law K tb) :=
  F.ok sc_law (fun vs H Q E h => by obtain ⟨_, rfl, _⟩ := h; rfl) fun cdv A outer s H vs Q E hr h => let ⟨t, h1, h2⟩ := law_body T hC TB f cdv A outer s H vs Q E hr h; ⟨t, h1.nox, h2⟩
end
end UG
end
section
/-! Unitgrids: what the head has left, and the end. -/
namespace UG
open PySem PySem.Spec PyProof.Rows L2 RZ UM UL NdefX LamX
section
variable {K : PySem.W.Frag} {h : Heap} {mg : Str → Option Value}
theorem hasD (X : K.In h) (G : h.Ns mainGlobals mg) {x : Str} {st : Stmt} (F : ∃ fd, FunD K x x (defArgs st) (defBody st) (defScope st) [] [] (He.fAd K (x, none)) fd) (g : (He.Fa.glo x).ok K = true) : HasD K mg x st :=
  let ⟨fd, F⟩ := F; ⟨_, fd, F, He.glo_ok X G g⟩
theorem txt_of (X : K.In h) (G : h.Ns mainGlobals mg) (c : He.SaysD fa fn K) : Txt K mg where
  x_is_integer := hasD X G (c.def_ 0 (d := d_is_integer) rfl) (c.fact 0 (f := .glo "is_integer") rfl)
  x_is_within := hasD X G (c.def_ 1 (d := d_is_within) rfl) (c.fact 1 (f := .glo "is_within") rfl)
  x_check_number := hasD X G (c.def_ 2 (d := d_check_number) rfl) (c.fact 2 (f := .glo "check_number") rfl)
  x_divisor := hasD X G (c.def_ 3 (d := d_divisor) rfl) (c.fact 3 (f := .glo "divisor") rfl)
  x_lowest := hasD X G (c.def_ 4 (d := d_lowest) rfl) (c.fact 4 (f := .glo "lowest") rfl)
  x_is_fraction := hasD X G (c.def_ 5 (d := d_is_fraction) rfl) (c.fact 5 (f := .glo "is_fraction") rfl)
  x_plus := hasD X G (c.def_ 6 (d := d_plus) rfl) (c.fact 6 (f := .glo "plus") rfl)
  x_minus := hasD X G (c.def_ 7 (d := d_minus) rfl) (c.fact 7 (f := .glo "minus") rfl)
  x_is_unit_of := hasD X G (c.def_ 8 (d := d_is_unit_of) rfl) (c.fact 8 (f := .glo "is_unit_of") rfl)
  x_unitless := hasD X G (c.def_ 9 (d := d_unitless) rfl) (c.fact 9 (f := .glo "unitless") rfl)
  x_unit_plus := hasD X G (c.def_ 10 (d := d_unit_plus) rfl) (c.fact 10 (f := .glo "unit_plus") rfl)
  x_unit_minus := hasD X G (c.def_ 11 (d := d_unit_minus) rfl) (c.fact 11 (f := .glo "unit_minus") rfl)
  x_is_part := hasD X G (c.def_ 12 (d := d_is_part) rfl) (c.fact 12 (f := .glo "is_part") rfl)
  x_is_cell := hasD X G (c.def_ 13 (d := d_is_cell) rfl) (c.fact 13 (f := .glo "is_cell") rfl)
  x_check_rows := hasD X G (c.def_ 14 (d := d_check_rows) rfl) (c.fact 14 (f := .glo "check_rows") rfl)
  x_sizes_of := hasD X G (c.def_ 15 (d := d_sizes_of) rfl) (c.fact 15 (f := .glo "sizes_of") rfl)
  x_with_cell := hasD X G (c.def_ 16 (d := d_with_cell) rfl) (c.fact 16 (f := .glo "with_cell") rfl)
  x_reached_by := hasD X G (c.def_ 17 (d := d_reached_by) rfl) (c.fact 17 (f := .glo "reached_by") rfl)
  x_turned_rows := hasD X G (c.def_ 18 (d := d_turned_rows) rfl) (c.fact 18 (f := .glo "turned_rows") rfl)
  x_shortest_walks := hasD X G (c.def_ 19 (d := d_shortest_walks) rfl) (c.fact 19 (f := .glo "shortest_walks") rfl)
  x_weight_of := hasD X G (c.def_ 20 (d := d_weight_of) rfl) (c.fact 20 (f := .glo "weight_of") rfl)
  x_two_walks := hasD X G (c.def_ 21 (d := d_two_walks) rfl) (c.fact 21 (f := .glo "two_walks") rfl)
  x_ring_ties := hasD X G (c.def_ 22 (d := d_ring_ties) rfl) (c.fact 22 (f := .glo "ring_ties") rfl)
  x_ring_heights := hasD X G (c.def_ 23 (d := d_ring_heights) rfl) (c.fact 23 (f := .glo "ring_heights") rfl)
  x_rings_in := hasD X G (c.def_ 24 (d := d_rings_in) rfl) (c.fact 24 (f := .glo "rings_in") rfl)
  x_least_first := hasD X G (c.def_ 25 (d := d_least_first) rfl) (c.fact 25 (f := .glo "least_first") rfl)
  x_ring_weight := hasD X G (c.def_ 26 (d := d_ring_weight) rfl) (c.fact 26 (f := .glo "ring_weight") rfl)
  x_heavy_ring := hasD X G (c.def_ 27 (d := d_heavy_ring) rfl) (c.fact 27 (f := .glo "heavy_ring") rfl)
  x_check_square_grid := hasD X G (c.def_ 28 (d := d_check_square_grid) rfl) (c.fact 28 (f := .glo "check_square_grid") rfl)
  x_take_column := hasD X G (c.def_ 29 (d := d_take_column) rfl) (c.fact 29 (f := .glo "take_column") rfl)
  x_placed := hasD X G (c.def_ 30 (d := d_placed) rfl) (c.fact 30 (f := .glo "placed") rfl)
  x_raw_placing := hasD X G (c.def_ 31 (d := d_raw_placing) rfl) (c.fact 31 (f := .glo "raw_placing") rfl)
  x_placing_ties := hasD X G (c.def_ 32 (d := d_placing_ties) rfl) (c.fact 32 (f := .glo "placing_ties") rfl)
  x_placing_unit := hasD X G (c.def_ 33 (d := d_placing_unit) rfl) (c.fact 33 (f := .glo "placing_unit") rfl)
  x_raw_determinant_verdict := hasD X G (c.def_ 34 (d := d_raw_determinant_verdict) rfl) (c.fact 34 (f := .glo "raw_determinant_verdict") rfl)
  x_determinant_verdict := hasD X G (c.def_ 35 (d := d_determinant_verdict) rfl) (c.fact 35 (f := .glo "determinant_verdict") rfl)
  x_two_placings := hasD X G (c.def_ 36 (d := d_two_placings) rfl) (c.fact 36 (f := .glo "two_placings") rfl)
  x_least_lot := hasD X G (c.def_ 37 (d := d_least_lot) rfl) (c.fact 37 (f := .glo "least_lot") rfl)
  x_struck := hasD X G (c.def_ 38 (d := d_struck) rfl) (c.fact 38 (f := .glo "struck") rfl)
  x_fewest_struck := hasD X G (c.def_ 39 (d := d_fewest_struck) rfl) (c.fact 39 (f := .glo "fewest_struck") rfl)
  x_L_hand := hasD X G (c.def_ 40 (d := d_L_hand) rfl) (c.fact 40 (f := .glo "_law_hand") rfl)
  x_L_draw := hasD X G (c.def_ 41 (d := d_L_draw) rfl) (c.fact 41 (f := .glo "_law_draw") rfl)
  x_L_lowest := hasD X G (c.def_ 42 (d := d_L_lowest) rfl) (c.fact 42 (f := .glo "_law_lowest") rfl)
  x_L_plus := hasD X G (c.def_ 43 (d := d_L_plus) rfl) (c.fact 43 (f := .glo "_law_plus") rfl)
  x_L_unit_sum := hasD X G (c.def_ 44 (d := d_L_unit_sum) rfl) (c.fact 44 (f := .glo "_law_unit_sum") rfl)
  x_L_unitless := hasD X G (c.def_ 45 (d := d_L_unitless) rfl) (c.fact 45 (f := .glo "_law_unitless") rfl)
  x_L_total := hasD X G (c.def_ 46 (d := d_L_total) rfl) (c.fact 46 (f := .glo "_law_total") rfl)
  x_L_unit := hasD X G (c.def_ 47 (d := d_L_unit) rfl) (c.fact 47 (f := .glo "_law_unit") rfl)
  x_L_rows := hasD X G (c.def_ 48 (d := d_L_rows) rfl) (c.fact 48 (f := .glo "_law_rows") rfl)
  x_L_drawn := hasD X G (c.def_ 49 (d := d_L_drawn) rfl) (c.fact 49 (f := .glo "_law_drawn") rfl)
  x_L_made := hasD X G (c.def_ 50 (d := d_L_made) rfl) (c.fact 50 (f := .glo "_law_made") rfl)
  x_L_placings := hasD X G (c.def_ 51 (d := d_L_placings) rfl) (c.fact 51 (f := .glo "_law_placings") rfl)
  x_L_placed := hasD X G (c.def_ 52 (d := d_L_placed) rfl) (c.fact 52 (f := .glo "_law_placed") rfl)
  x_L_lots := hasD X G (c.def_ 53 (d := d_L_lots) rfl) (c.fact 53 (f := .glo "_law_lots") rfl)
  x_L_due := hasD X G (c.def_ 54 (d := d_L_due) rfl) (c.fact 54 (f := .glo "_law_due") rfl)
  x_L_ring_right := hasD X G (c.def_ 55 (d := d_L_ring_right) rfl) (c.fact 55 (f := .glo "_law_ring_right") rfl)
  x_law := hasD X G (c.def_ 56 (d := d_law) rfl) (c.fact 56 (f := .glo "law") rfl)
  e_MOST_BASES := He.int_ok X G (c.fact 62 (f := .int "MOST_BASES" 3) rfl)
  e_MOST_ROWS := He.int_ok X G (c.fact 63 (f := .int "MOST_ROWS" 10) rfl)
  e_MOST_TOP := He.int_ok X G (c.fact 64 (f := .int "MOST_TOP" 6) rfl)
  e_MOST_BOTTOM := He.int_ok X G (c.fact 65 (f := .int "MOST_BOTTOM" 4) rfl)
  e_MOST_CELLS := He.int_ok X G (c.fact 66 (f := .int "MOST_CELLS" 3) rfl)
  b_len := He.free_ok X G (c.fact 67 (f := .free "len") rfl)
  b_range := He.free_ok X G (c.fact 68 (f := .free "range") rfl)
  b_zip := He.free_ok X G (c.fact 69 (f := .free "zip") rfl)
  b_enumerate := He.free_ok X G (c.fact 70 (f := .free "enumerate") rfl)
  b_tuple := He.free_ok X G (c.fact 71 (f := .free "tuple") rfl)
  b_list := He.free_ok X G (c.fact 72 (f := .free "list") rfl)
  b_int := He.free_ok X G (c.fact 73 (f := .free "int") rfl)
  b_abs := He.free_ok X G (c.fact 74 (f := .free "abs") rfl)
  b_all := He.free_ok X G (c.fact 75 (f := .free "all") rfl)
  b_isinstance := He.free_ok X G (c.fact 76 (f := .free "isinstance") rfl)
  b_sorted := He.free_ok X G (c.fact 77 (f := .free "sorted") rfl)
  b_min := He.free_ok X G (c.fact 78 (f := .free "min") rfl)
  b_sum := He.free_ok X G (c.fact 79 (f := .free "sum") rfl)
  b_set := He.free_ok X G (c.fact 80 (f := .free "set") rfl)
  b_bool := He.free_ok X G (c.fact 81 (f := .free "bool") rfl)
  g_Grid := He.glo_ok X G (c.fact 57 (f := .glo "Grid") rfl)
  cls := He.cls_ok (c.fact 58 (f := .cls "Grid") rfl)
  nBases := He.noat_ok (c.fact 59 (f := .noat "Grid" "bases") rfl)
  nRows := He.noat_ok (c.fact 60 (f := .noat "Grid" "rows") rfl)
  mkr := He.mkr_ok (c.fact 61 (f := .mkr "Grid") rfl)
  x_Grid_init := c.def_ 57 (d := d_Grid_init) rfl
/-- the code object of fewest_struck -/
theorem hasC_of (X : K.In h) (G : h.Ns mainGlobals mg) (c : He.SaysD fa fn K) : HasC K mg (He.codeOf K ("fewest_struck", none)) := by
  obtain ⟨fd, F⟩ := c.def_ 39 (d := d_fewest_struck) rfl
  refine ⟨_, fd, F, He.glo_ok X G (c.fact 39 (f := .glo "fewest_struck") rfl), ?_⟩
  obtain ⟨oc, od, dV, kV, doc, pm, an, cdv, ct, osl, rfl, lk, hcd, hD, hK⟩ := id F.ex
  obtain ⟨c', rfl⟩ := He.codeIn_ref hcd
  exact congrArg Value.ref (He.codeOf_eq (p := ("fewest_struck", none)) lk rfl).symm
theorem facts {P : Program} {w : World} {f : Addr} (X : K.In h) (G : h.Ns mainGlobals mg) (hfa : mg ("law" : Str) = some (.ref f)) (c : He.SaysX fa fn [] tf (fun _ => true) w h K) :
    ∃ (fd : FuncData) (tb : Addr), (∀ (s : Shared) (v : Value), BindsTo s fd ⟨[v], []⟩ [("_law_script", v)]) ∧ (He.cT K ("fewest_struck", none)).2 = tb ∧
      ∀ base : Heap, K.In base → base.Ns mainGlobals mg → TabB base mg (He.cT K ("fewest_struck", none)).1 (He.cT K ("fewest_struck", none)).2 → FnOk P w K mg base CX0 21 f fd ["_law_script"] (sp_law K tb) := by
  obtain ⟨fd, F⟩ := c.t.d.def_ 56 (d := d_law) rfl
  have e := hfa.symm.trans (He.glo_ok X G (c.t.d.fact 56 (f := .glo "law") rfl))
  cases e
  have b := FunD.bindsA (ps := ["_law_script"]) F fun _ _ _ _ _ _ us hl => match us, hl with | [_], _ => rfl
  exact ⟨fd, _, fun s v => b s [v] rfl, rfl, fun base _ _ TB => fn_law (txt_of X G c.t.d) F (hasC_of X G c.t.d) TB⟩
end
end UG
end
open PySem PySem.W PySem.Calls PyProof.Rows
set_option maxHeartbeats 0
theorem PySem.Challenge.cw_unitgrids_k58_whole_fewest_live_cells_st_holds : PySem.Challenge.rw_unitgrids_k58_whole_fewest_live_cells_st.Holds := by
  w_on; o_law
  refine HandSHeadRun.head_any (r := OpenLaw.row PySem.Challenge.rw_unitgrids_k58_whole_fewest_live_cells_st) (q := UG.qv) (H := UG.hk) (ob := UG.ob) (M := 4000) (loose := UG.loose) (d := HandSHeadRun.topDef (OpenLaw.row PySem.Challenge.rw_unitgrids_k58_whole_fewest_live_cells_st).prog 78) (kwd := []) UG.ob_eq
    (by kernel_rfl) (fun s => by kernel_rfl) UG.run (by kernel_rfl) (by kernel_rfl) (by kernel_rfl) (by rfl) (by first | assumption | decide +kernel) (by decide +kernel) ⟨rfl, rfl, rfl, rfl, rfl, by decide +kernel⟩ ?hw ?hc
  case hw => w_witness2
  case hc =>
    refine LamX.walk_ofTsE (l := PySem.Challenge.rw_unitgrids_k58_whole_fewest_live_cells_st) (n := 63) (k := 21) (x := "_law_script") (CX := fun _ => L2.CX0) rfl (by decide) (by kernel_rfl) ⟨rfl, by decide, by decide⟩ ?F (fun _ _ _ _ _ z => z)
    intro w mg fa h Y G hmg0
    obtain ⟨K, KX, c⟩ := Y
    have hmg : mg ("law" : PySem.Str) = some (.ref fa) := by
      have e : (HandSHeadRun.topDef (OpenLaw.row PySem.Challenge.rw_unitgrids_k58_whole_fewest_live_cells_st).prog 78).name = ("law" : PySem.Str) := by kernel_rfl
      rw [← e]
      exact hmg0
    obtain ⟨fd, tb, hb, rfl, hF⟩ := UG.facts (P := (PySem.Challenge.rw_unitgrids_k58_whole_fewest_live_cells_st).prog) (w := w) KX G hmg c
    have hm : (("fewest_struck", none) : He.Defn) ∈ UG.tf := List.mem_singleton.mpr rfl
    refine ⟨K, KX, fd, [He.cT K ("fewest_struck", none)], UG.sp_law K (He.cT K ("fewest_struck", none)).2, fun p hp => ?_, fun p hp => ?_, fun p hp => ?_, hb, fun H a ns hl _ hT hS => ?_, fun base hB hN hT => hF base hB hN (hT _ (List.mem_singleton.mpr rfl))⟩
    · rw [List.mem_singleton.mp hp]; exact c.empty _ hm
    · rw [List.mem_singleton.mp hp]; exact c.out _ hm
    · rw [List.mem_singleton.mp hp]; exact codeHd_of_K KX (c.hd _ hm)
    · refine ⟨_, rfl, a, ns, rfl, hS, hl, fun p hp => ?_, fun _ => rfl⟩
      rw [List.mem_singleton.mp hp]
      exact NdefX.TabN.nil (hT _ (List.mem_singleton.mpr rfl))
