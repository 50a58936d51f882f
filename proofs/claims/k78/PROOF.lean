import PyProof.Rows.All
import Wide.All
import OpenK.AllK
import Wide.FinOn
import KE.KStateDown
import HandS.ForMost
import HandS.Exc
import HandS.WordsExc
import HandS.Defaults
import HandS.Flow
import HandS.Style
import HandS.Wide
import HandS.WideMore
import HandS.Star
import HandS.DictComp
import HandS.DictTup
import HandS.DictEq
import HandS.Deep
import HandS.IsInst
import HandS.Zip
import HandS.GenBody
import HandS.GenYield
import HandS.GenCall
import HandS.GenList
import HandS.Head0
import HandS.Head1
import HandS.Head2
import HandS.HeadEnd
import HandS.HeadHook1
import HandS.HeadHook2
import HandS.TupLen
import HandS.Conv
import PyProof.DictMoreH
import HandS.Walk
import PySem.Challenge.RW_pairorder_k78_whole_leads_keep_the_cost
section
set_option Elab.async false
set_option linter.all false
set_option maxRecDepth 100000
set_option maxHeartbeats 4000000

namespace K78
open PySem PySem.Spec PyProof.Rows L2
def top (i : Nat) : Stmt := PySem.Challenge.pw_pairorder_k78_whole_leads_keep_the_cost.main.body.getD i (.Pass ⟨0, 0, 0, 0⟩)
abbrev s_is_integer : Stmt := top 12
abbrev s_is_between : Stmt := top 13
abbrev s_is_spot : Stmt := top 14
abbrev s_is_kind : Stmt := top 17
abbrev s_check_kind : Stmt := top 18
abbrev s_counts_columns : Stmt := top 19
abbrev s_counts_rows : Stmt := top 20
abbrev s_is_possible_pair : Stmt := top 24
abbrev s_Order__init__ : Stmt := inClass (top 25) 0
abbrev s_Order__len__ : Stmt := inClass (top 25) 7
abbrev s_Order_pairs : Stmt := inClass (top 25) 10
abbrev s_Order_exchanged : Stmt := inClass (top 25) 12
abbrev s_check_order : Stmt := top 26
abbrev s_check_list : Stmt := top 29
abbrev s_Amounts__init__ : Stmt := inClass (top 30) 0
abbrev s_Amounts_stocks : Stmt := inClass (top 30) 7
abbrev s_Amounts_wishes : Stmt := inClass (top 30) 8
abbrev s_Amounts_over : Stmt := inClass (top 30) 9
abbrev s_Amounts_fits_size : Stmt := inClass (top 30) 10
abbrev s_check_size : Stmt := top 31
abbrev s_is_dearer : Stmt := top 33
abbrev s_bars : Stmt := top 34
abbrev s_first_bar : Stmt := top 35
abbrev s_Serving__init__ : Stmt := inClass (top 37) 0
abbrev s_Serving__getitem__ : Stmt := inClass (top 37) 3
abbrev s_Serving_moved : Stmt := inClass (top 37) 5
abbrev s_Serving_cost : Stmt := inClass (top 37) 6
abbrev s_Server__init__ : Stmt := inClass (top 38) 0
abbrev s_Server__call__ : Stmt := inClass (top 38) 1
abbrev s_Server_steps : Stmt := inClass (top 38) 2
abbrev s_first_fault : Stmt := top 40
abbrev s_check_right : Stmt := top 41
abbrev s_check_both : Stmt := top 43
abbrev s_led : Stmt := top 44
abbrev s_is_entry : Stmt := top 47
abbrev s_is_row : Stmt := top 48
abbrev s_width_of : Stmt := top 49
abbrev s_Table__init__ : Stmt := inClass (top 53) 0
abbrev s_Table__len__ : Stmt := inClass (top 53) 4
abbrev s_Table__getitem__ : Stmt := inClass (top 53) 5
abbrev s_Table__contains__ : Stmt := inClass (top 53) 6
abbrev s_Table_stocks : Stmt := inClass (top 53) 10
abbrev s_Table_wishes : Stmt := inClass (top 53) 11
abbrev s_Table_rows : Stmt := inClass (top 53) 12
abbrev s_Table_has_cell : Stmt := inClass (top 53) 13
abbrev s_Table_pairs : Stmt := inClass (top 53) 14
abbrev s_reach : Stmt := top 55
abbrev s_path_to : Stmt := top 56
abbrev s_augment : Stmt := top 57
abbrev s_greatest_flow : Stmt := top 58
abbrev s_least_prices : Stmt := top 59
abbrev s_tight_pairs : Stmt := top 60
abbrev s_least_gap : Stmt := top 61
abbrev s_cheapest_flow : Stmt := top 62
abbrev s_turned_grid : Stmt := top 64
abbrev s_shortage : Stmt := top 65
abbrev s_balanced : Stmt := top 66
abbrev s_plain_worths : Stmt := top 67
abbrev s_cheapest : Stmt := top 68
abbrev s_least_cost : Stmt := top 69
abbrev s__law_cell : Stmt := top 71
abbrev s__law_mixed : Stmt := top 72
abbrev s__law_draws : Stmt := top 73
abbrev s__law_grid : Stmt := top 74
abbrev s__law_spots : Stmt := top 75
abbrev s__law_copy : Stmt := top 76
abbrev s__law_cross : Stmt := top 77
abbrev s__law_needs_of : Stmt := top 78
abbrev s__law_needs : Stmt := top 79
abbrev s__law_met : Stmt := top 80
abbrev s__law_open : Stmt := top 81
abbrev s__law_walk : Stmt := top 83
abbrev s__law_table_of : Stmt := top 84
abbrev s__law_fitting : Stmt := top 85
abbrev s__law_serve : Stmt := top 86
abbrev s__law_ways : Stmt := top 87
abbrev s__law_cost_of : Stmt := top 88
abbrev s__law_keeps : Stmt := top 89
abbrev s_law : Stmt := top 90
end K78
end
section
set_option Elab.async false
set_option linter.all false
set_option maxRecDepth 100000
set_option maxHeartbeats 4000000

set_option maxHeartbeats 0
namespace K78
open PySem PySem.Spec PyProof.Rows L2
def d_is_integer : He.DefD := ⟨("is_integer", none), "is_integer", "is_integer", defArgs s_is_integer, defBody s_is_integer, defScope s_is_integer, [], []⟩
def d_is_between : He.DefD := ⟨("is_between", none), "is_between", "is_between", defArgs s_is_between, defBody s_is_between, defScope s_is_between, [], []⟩
def d_is_spot : He.DefD := ⟨("is_spot", none), "is_spot", "is_spot", defArgs s_is_spot, defBody s_is_spot, defScope s_is_spot, [], []⟩
def d_is_kind : He.DefD := ⟨("is_kind", none), "is_kind", "is_kind", defArgs s_is_kind, defBody s_is_kind, defScope s_is_kind, [], []⟩
def d_check_kind : He.DefD := ⟨("check_kind", none), "check_kind", "check_kind", defArgs s_check_kind, defBody s_check_kind, defScope s_check_kind, [], []⟩
def d_counts_columns : He.DefD := ⟨("counts_columns", none), "counts_columns", "counts_columns", defArgs s_counts_columns, defBody s_counts_columns, defScope s_counts_columns, [], []⟩
def d_counts_rows : He.DefD := ⟨("counts_rows", none), "counts_rows", "counts_rows", defArgs s_counts_rows, defBody s_counts_rows, defScope s_counts_rows, [], []⟩
def d_is_possible_pair : He.DefD := ⟨("is_possible_pair", none), "is_possible_pair", "is_possible_pair", defArgs s_is_possible_pair, defBody s_is_possible_pair, defScope s_is_possible_pair, [], []⟩
def d_Order__init__ : He.DefD := ⟨("Order", some "__init__"), "__init__", "Order.__init__", defArgs s_Order__init__, defBody s_Order__init__, defScope s_Order__init__, [], []⟩
def d_Order__len__ : He.DefD := ⟨("Order", some "__len__"), "__len__", "Order.__len__", defArgs s_Order__len__, defBody s_Order__len__, defScope s_Order__len__, [], []⟩
def d_Order_pairs : He.DefD := ⟨("Order", some "pairs"), "pairs", "Order.pairs", defArgs s_Order_pairs, defBody s_Order_pairs, defScope s_Order_pairs, [], []⟩
def d_Order_exchanged : He.DefD := ⟨("Order", some "exchanged"), "exchanged", "Order.exchanged", defArgs s_Order_exchanged, defBody s_Order_exchanged, defScope s_Order_exchanged, [], []⟩
def d_check_order : He.DefD := ⟨("check_order", none), "check_order", "check_order", defArgs s_check_order, defBody s_check_order, defScope s_check_order, [], []⟩
def d_check_list : He.DefD := ⟨("check_list", none), "check_list", "check_list", defArgs s_check_list, defBody s_check_list, defScope s_check_list, [], []⟩
def d_Amounts__init__ : He.DefD := ⟨("Amounts", some "__init__"), "__init__", "Amounts.__init__", defArgs s_Amounts__init__, defBody s_Amounts__init__, defScope s_Amounts__init__, [], []⟩
def d_Amounts_stocks : He.DefD := ⟨("Amounts", some "stocks"), "stocks", "Amounts.stocks", defArgs s_Amounts_stocks, defBody s_Amounts_stocks, defScope s_Amounts_stocks, [], []⟩
def d_Amounts_wishes : He.DefD := ⟨("Amounts", some "wishes"), "wishes", "Amounts.wishes", defArgs s_Amounts_wishes, defBody s_Amounts_wishes, defScope s_Amounts_wishes, [], []⟩
def d_Amounts_over : He.DefD := ⟨("Amounts", some "over"), "over", "Amounts.over", defArgs s_Amounts_over, defBody s_Amounts_over, defScope s_Amounts_over, [], []⟩
def d_Amounts_fits_size : He.DefD := ⟨("Amounts", some "fits_size"), "fits_size", "Amounts.fits_size", defArgs s_Amounts_fits_size, defBody s_Amounts_fits_size, defScope s_Amounts_fits_size, [], []⟩
def d_check_size : He.DefD := ⟨("check_size", none), "check_size", "check_size", defArgs s_check_size, defBody s_check_size, defScope s_check_size, [], []⟩
def d_is_dearer : He.DefD := ⟨("is_dearer", none), "is_dearer", "is_dearer", defArgs s_is_dearer, defBody s_is_dearer, defScope s_is_dearer, [], []⟩
def d_bars : He.DefD := ⟨("bars", none), "bars", "bars", defArgs s_bars, defBody s_bars, defScope s_bars, [], []⟩
def d_first_bar : He.DefD := ⟨("first_bar", none), "first_bar", "first_bar", defArgs s_first_bar, defBody s_first_bar, defScope s_first_bar, [], []⟩
def d_Serving__init__ : He.DefD := ⟨("Serving", some "__init__"), "__init__", "Serving.__init__", defArgs s_Serving__init__, defBody s_Serving__init__, defScope s_Serving__init__, [], []⟩
def d_Serving__getitem__ : He.DefD := ⟨("Serving", some "__getitem__"), "__getitem__", "Serving.__getitem__", defArgs s_Serving__getitem__, defBody s_Serving__getitem__, defScope s_Serving__getitem__, [], []⟩
def d_Serving_moved : He.DefD := ⟨("Serving", some "moved"), "moved", "Serving.moved", defArgs s_Serving_moved, defBody s_Serving_moved, defScope s_Serving_moved, [], []⟩
def d_Serving_cost : He.DefD := ⟨("Serving", some "cost"), "cost", "Serving.cost", defArgs s_Serving_cost, defBody s_Serving_cost, defScope s_Serving_cost, [], []⟩
def d_Server__init__ : He.DefD := ⟨("Server", some "__init__"), "__init__", "Server.__init__", defArgs s_Server__init__, defBody s_Server__init__, defScope s_Server__init__, [], []⟩
def d_Server__call__ : He.DefD := ⟨("Server", some "__call__"), "__call__", "Server.__call__", defArgs s_Server__call__, defBody s_Server__call__, defScope s_Server__call__, [], []⟩
def d_Server_steps : He.DefD := ⟨("Server", some "steps"), "steps", "Server.steps", defArgs s_Server_steps, defBody s_Server_steps, defScope s_Server_steps, [], []⟩
def d_first_fault : He.DefD := ⟨("first_fault", none), "first_fault", "first_fault", defArgs s_first_fault, defBody s_first_fault, defScope s_first_fault, [], [("kind", .str "even")]⟩
def d_check_right : He.DefD := ⟨("check_right", none), "check_right", "check_right", defArgs s_check_right, defBody s_check_right, defScope s_check_right, [], []⟩
def d_check_both : He.DefD := ⟨("check_both", none), "check_both", "check_both", defArgs s_check_both, defBody s_check_both, defScope s_check_both, [], []⟩
def d_led : He.DefD := ⟨("led", none), "led", "led", defArgs s_led, defBody s_led, defScope s_led, [], [("kind", .str "even")]⟩
def d_is_entry : He.DefD := ⟨("is_entry", none), "is_entry", "is_entry", defArgs s_is_entry, defBody s_is_entry, defScope s_is_entry, [], []⟩
def d_is_row : He.DefD := ⟨("is_row", none), "is_row", "is_row", defArgs s_is_row, defBody s_is_row, defScope s_is_row, [], []⟩
def d_width_of : He.DefD := ⟨("width_of", none), "width_of", "width_of", defArgs s_width_of, defBody s_width_of, defScope s_width_of, [], []⟩
def d_Table__init__ : He.DefD := ⟨("Table", some "__init__"), "__init__", "Table.__init__", defArgs s_Table__init__, defBody s_Table__init__, defScope s_Table__init__, [], []⟩
def d_Table__len__ : He.DefD := ⟨("Table", some "__len__"), "__len__", "Table.__len__", defArgs s_Table__len__, defBody s_Table__len__, defScope s_Table__len__, [], []⟩
def d_Table__getitem__ : He.DefD := ⟨("Table", some "__getitem__"), "__getitem__", "Table.__getitem__", defArgs s_Table__getitem__, defBody s_Table__getitem__, defScope s_Table__getitem__, [], []⟩
def d_Table__contains__ : He.DefD := ⟨("Table", some "__contains__"), "__contains__", "Table.__contains__", defArgs s_Table__contains__, defBody s_Table__contains__, defScope s_Table__contains__, [], []⟩
def d_Table_stocks : He.DefD := ⟨("Table", some "stocks"), "stocks", "Table.stocks", defArgs s_Table_stocks, defBody s_Table_stocks, defScope s_Table_stocks, [], []⟩
def d_Table_wishes : He.DefD := ⟨("Table", some "wishes"), "wishes", "Table.wishes", defArgs s_Table_wishes, defBody s_Table_wishes, defScope s_Table_wishes, [], []⟩
def d_Table_rows : He.DefD := ⟨("Table", some "rows"), "rows", "Table.rows", defArgs s_Table_rows, defBody s_Table_rows, defScope s_Table_rows, [], []⟩
def d_Table_has_cell : He.DefD := ⟨("Table", some "has_cell"), "has_cell", "Table.has_cell", defArgs s_Table_has_cell, defBody s_Table_has_cell, defScope s_Table_has_cell, [], []⟩
def d_Table_pairs : He.DefD := ⟨("Table", some "pairs"), "pairs", "Table.pairs", defArgs s_Table_pairs, defBody s_Table_pairs, defScope s_Table_pairs, [], []⟩
def d_reach : He.DefD := ⟨("reach", none), "reach", "reach", defArgs s_reach, defBody s_reach, defScope s_reach, [], []⟩
def d_path_to : He.DefD := ⟨("path_to", none), "path_to", "path_to", defArgs s_path_to, defBody s_path_to, defScope s_path_to, [], []⟩
def d_augment : He.DefD := ⟨("augment", none), "augment", "augment", defArgs s_augment, defBody s_augment, defScope s_augment, [], []⟩
def d_greatest_flow : He.DefD := ⟨("greatest_flow", none), "greatest_flow", "greatest_flow", defArgs s_greatest_flow, defBody s_greatest_flow, defScope s_greatest_flow, [], []⟩
def d_least_prices : He.DefD := ⟨("least_prices", none), "least_prices", "least_prices", defArgs s_least_prices, defBody s_least_prices, defScope s_least_prices, [], []⟩
def d_tight_pairs : He.DefD := ⟨("tight_pairs", none), "tight_pairs", "tight_pairs", defArgs s_tight_pairs, defBody s_tight_pairs, defScope s_tight_pairs, [], []⟩
def d_least_gap : He.DefD := ⟨("least_gap", none), "least_gap", "least_gap", defArgs s_least_gap, defBody s_least_gap, defScope s_least_gap, [], []⟩
def d_cheapest_flow : He.DefD := ⟨("cheapest_flow", none), "cheapest_flow", "cheapest_flow", defArgs s_cheapest_flow, defBody s_cheapest_flow, defScope s_cheapest_flow, [], []⟩
def d_turned_grid : He.DefD := ⟨("turned_grid", none), "turned_grid", "turned_grid", defArgs s_turned_grid, defBody s_turned_grid, defScope s_turned_grid, [], []⟩
def d_shortage : He.DefD := ⟨("shortage", none), "shortage", "shortage", defArgs s_shortage, defBody s_shortage, defScope s_shortage, [], []⟩
def d_balanced : He.DefD := ⟨("balanced", none), "balanced", "balanced", defArgs s_balanced, defBody s_balanced, defScope s_balanced, [], []⟩
def d_plain_worths : He.DefD := ⟨("plain_worths", none), "plain_worths", "plain_worths", defArgs s_plain_worths, defBody s_plain_worths, defScope s_plain_worths, [], []⟩
def d_cheapest : He.DefD := ⟨("cheapest", none), "cheapest", "cheapest", defArgs s_cheapest, defBody s_cheapest, defScope s_cheapest, [], []⟩
def d_least_cost : He.DefD := ⟨("least_cost", none), "least_cost", "least_cost", defArgs s_least_cost, defBody s_least_cost, defScope s_least_cost, [], []⟩
def d__law_cell : He.DefD := ⟨("_law_cell", none), "_law_cell", "_law_cell", defArgs s__law_cell, defBody s__law_cell, defScope s__law_cell, [], []⟩
def d__law_mixed : He.DefD := ⟨("_law_mixed", none), "_law_mixed", "_law_mixed", defArgs s__law_mixed, defBody s__law_mixed, defScope s__law_mixed, [], []⟩
def d__law_draws : He.DefD := ⟨("_law_draws", none), "_law_draws", "_law_draws", defArgs s__law_draws, defBody s__law_draws, defScope s__law_draws, [], []⟩
def d__law_grid : He.DefD := ⟨("_law_grid", none), "_law_grid", "_law_grid", defArgs s__law_grid, defBody s__law_grid, defScope s__law_grid, [], []⟩
def d__law_spots : He.DefD := ⟨("_law_spots", none), "_law_spots", "_law_spots", defArgs s__law_spots, defBody s__law_spots, defScope s__law_spots, [], []⟩
def d__law_copy : He.DefD := ⟨("_law_copy", none), "_law_copy", "_law_copy", defArgs s__law_copy, defBody s__law_copy, defScope s__law_copy, [], []⟩
def d__law_cross : He.DefD := ⟨("_law_cross", none), "_law_cross", "_law_cross", defArgs s__law_cross, defBody s__law_cross, defScope s__law_cross, [], []⟩
def d__law_needs_of : He.DefD := ⟨("_law_needs_of", none), "_law_needs_of", "_law_needs_of", defArgs s__law_needs_of, defBody s__law_needs_of, defScope s__law_needs_of, [], []⟩
def d__law_needs : He.DefD := ⟨("_law_needs", none), "_law_needs", "_law_needs", defArgs s__law_needs, defBody s__law_needs, defScope s__law_needs, [], []⟩
def d__law_met : He.DefD := ⟨("_law_met", none), "_law_met", "_law_met", defArgs s__law_met, defBody s__law_met, defScope s__law_met, [], []⟩
def d__law_open : He.DefD := ⟨("_law_open", none), "_law_open", "_law_open", defArgs s__law_open, defBody s__law_open, defScope s__law_open, [], []⟩
def d__law_walk : He.DefD := ⟨("_law_walk", none), "_law_walk", "_law_walk", defArgs s__law_walk, defBody s__law_walk, defScope s__law_walk, [], []⟩
def d__law_table_of : He.DefD := ⟨("_law_table_of", none), "_law_table_of", "_law_table_of", defArgs s__law_table_of, defBody s__law_table_of, defScope s__law_table_of, [], []⟩
def d__law_fitting : He.DefD := ⟨("_law_fitting", none), "_law_fitting", "_law_fitting", defArgs s__law_fitting, defBody s__law_fitting, defScope s__law_fitting, [], []⟩
def d__law_serve : He.DefD := ⟨("_law_serve", none), "_law_serve", "_law_serve", defArgs s__law_serve, defBody s__law_serve, defScope s__law_serve, [], []⟩
def d__law_ways : He.DefD := ⟨("_law_ways", none), "_law_ways", "_law_ways", defArgs s__law_ways, defBody s__law_ways, defScope s__law_ways, [], []⟩
def d__law_cost_of : He.DefD := ⟨("_law_cost_of", none), "_law_cost_of", "_law_cost_of", defArgs s__law_cost_of, defBody s__law_cost_of, defScope s__law_cost_of, [], []⟩
def d__law_keeps : He.DefD := ⟨("_law_keeps", none), "_law_keeps", "_law_keeps", defArgs s__law_keeps, defBody s__law_keeps, defScope s__law_keeps, [], []⟩
def d_law : He.DefD := ⟨("law", none), "law", "law", defArgs s_law, defBody s_law, defScope s_law, [], []⟩
def fn0 : List He.DefD := [d_is_integer, d_is_between, d_is_spot, d_is_kind, d_check_kind, d_counts_columns, d_counts_rows, d_is_possible_pair, d_Order__init__, d_Order__len__, d_Order_pairs, d_Order_exchanged, d_check_order, d_check_list, d_Amounts__init__, d_Amounts_stocks, d_Amounts_wishes, d_Amounts_over, d_Amounts_fits_size, d_check_size]
def fn1 : List He.DefD := [d_is_dearer, d_bars, d_first_bar, d_Serving__init__, d_Serving__getitem__, d_Serving_moved, d_Serving_cost, d_Server__init__, d_Server__call__, d_Server_steps, d_first_fault, d_check_right, d_check_both, d_led, d_is_entry, d_is_row, d_width_of, d_Table__init__, d_Table__len__, d_Table__getitem__]
def fn2 : List He.DefD := [d_Table__contains__, d_Table_stocks, d_Table_wishes, d_Table_rows, d_Table_has_cell, d_Table_pairs, d_reach, d_path_to, d_augment, d_greatest_flow, d_least_prices, d_tight_pairs, d_least_gap, d_cheapest_flow, d_turned_grid, d_shortage, d_balanced, d_plain_worths, d_cheapest, d_least_cost]
def fn3 : List He.DefD := [d__law_cell, d__law_mixed, d__law_draws, d__law_grid, d__law_spots, d__law_copy, d__law_cross, d__law_needs_of, d__law_needs, d__law_met, d__law_open, d__law_walk, d__law_table_of, d__law_fitting, d__law_serve, d__law_ways, d__law_cost_of, d__law_keeps, d_law]
def fn : List He.DefD := fn0 ++ (fn1 ++ (fn2 ++ (fn3)))
def fa0 : List He.Fa := [.glo "is_integer", .glo "is_between", .glo "is_spot", .glo "is_kind", .glo "check_kind", .glo "counts_columns", .glo "counts_rows", .glo "is_possible_pair", .glo "check_order", .glo "check_list", .glo "check_size", .glo "is_dearer", .glo "bars", .glo "first_bar", .glo "first_fault", .glo "check_right", .glo "check_both", .glo "led", .glo "is_entry", .glo "is_row"]
def fa1 : List He.Fa := [.glo "width_of", .glo "reach", .glo "path_to", .glo "augment", .glo "greatest_flow", .glo "least_prices", .glo "tight_pairs", .glo "least_gap", .glo "cheapest_flow", .glo "turned_grid", .glo "shortage", .glo "balanced", .glo "plain_worths", .glo "cheapest", .glo "least_cost", .glo "_law_cell", .glo "_law_mixed", .glo "_law_draws", .glo "_law_grid", .glo "_law_spots"]
def fa2 : List He.Fa := [.glo "_law_copy", .glo "_law_cross", .glo "_law_needs_of", .glo "_law_needs", .glo "_law_met", .glo "_law_open", .glo "_law_walk", .glo "_law_table_of", .glo "_law_fitting", .glo "_law_serve", .glo "_law_ways", .glo "_law_cost_of", .glo "_law_keeps", .glo "law", .glo "Order", .cls "Order", .mkr "Order", .glo "Amounts", .cls "Amounts", .mkr "Amounts"]
def fa3 : List He.Fa := [.glo "Serving", .cls "Serving", .mkr "Serving", .glo "Server", .cls "Server", .mkr "Server", .glo "Table", .cls "Table", .mkr "Table", .meth "Order" "__len__", .meth "Order" "pairs", .meth "Order" "exchanged", .meth "Amounts" "stocks", .meth "Amounts" "wishes", .meth "Amounts" "over", .meth "Amounts" "fits_size", .meth "Serving" "__getitem__", .meth "Serving" "moved", .meth "Serving" "cost", .meth "Server" "__call__"]
def fa4 : List He.Fa := [.meth "Server" "steps", .meth "Table" "__len__", .meth "Table" "__getitem__", .meth "Table" "__contains__", .meth "Table" "stocks", .meth "Table" "wishes", .meth "Table" "rows", .meth "Table" "has_cell", .meth "Table" "pairs", .noat "Order" "listed", .noat "Order" "spots", .noat "Amounts" "stock_list", .noat "Amounts" "wish_list", .noat "Serving" "held_table", .noat "Serving" "held_amounts", .noat "Serving" "served", .noat "Server" "held_table", .noat "Server" "held_order", .noat "Table" "grid", .free "len"]
def fa5 : List He.Fa := [.free "isinstance", .free "int", .free "bool", .free "str", .free "list", .free "tuple", .free "range", .free "enumerate", .free "zip", .free "sum", .free "max", .int "LONGEST" 64, .int "GREATEST" 7, .int "LARGEST" 8, .int "MOST" 8, .glo "KINDS"]
def fa : List He.Fa := fa0 ++ (fa1 ++ (fa2 ++ (fa3 ++ (fa4 ++ (fa5)))))
def lo0 : List Str := ["_wall", "copied", "PairError", "InvalidTable", "InvalidAmounts", "InvalidOrder", "InvalidPair", "InvalidBound", "NotRight", "NoFit", "is_integer", "is_between", "is_spot", "KINDS", "is_kind", "check_kind", "counts_columns", "counts_rows", "LONGEST", "GREATEST"]
def lo1 : List Str := ["is_possible_pair", "Order", "check_order", "LARGEST", "check_list", "Amounts", "check_size", "is_dearer", "bars", "first_bar", "Serving", "Server", "first_fault", "check_right", "check_both", "led", "MOST", "is_entry", "is_row", "width_of"]
def lo2 : List Str := ["is_same_size", "entry_sum", "is_line_list", "Table", "reach", "path_to", "augment", "greatest_flow", "least_prices", "tight_pairs", "least_gap", "cheapest_flow", "turned_grid", "shortage", "balanced", "plain_worths", "cheapest", "least_cost", "_law_cell", "_law_mixed"]
def lo3 : List Str := ["_law_draws", "_law_grid", "_law_spots", "_law_copy", "_law_cross", "_law_needs_of", "_law_needs", "_law_met", "_law_open", "_law_is_right", "_law_walk", "_law_table_of", "_law_fitting", "_law_serve", "_law_ways", "_law_cost_of", "_law_keeps"]
def lo : List Str := lo0 ++ (lo1 ++ (lo2 ++ (lo3)))
abbrev R : PySem.W.OpenRow := PySem.W.OpenLaw.row PySem.Challenge.rw_pairorder_k78_whole_leads_keep_the_cost
/-- the tuple KINDS -/
def exK (K : PySem.W.Frag) : Bool := He.tupB K "KINDS" [.str "even", .str "stock", .str "wish", .str "any"] && (PySem.W.fnIn K (He.ma K (He.ga K "Server") "__call__") && (PySem.W.noSeq K (He.ga K "Table") && PySem.W.noSeq K (He.ga K "Serving")))
def dvals (o : Obj) : List Addr := match o.data with
  | .dict es _ => es.toList.flatMap fun e => He.refV e.val
  | _ => []
def codeA (g : Addr → Option Obj) (a : Addr) : List Addr := match g a with
  | some o => (match o.data with
    | .func fd => a :: (He.refV fd.code ++ He.refV fd.kwdefaults)
    | _ => [a])
  | none => []
def restA (g : Addr → Option Obj) (a : Addr) : List Addr := match g a with
  | some o => (match o.data with
    | .func fd => a :: (He.refV fd.code ++ He.refV fd.kwdefaults)
    | .cls cd => a :: cd.ns :: (match g cd.ns with
      | some on => (dvals on).flatMap (codeA g)
      | none => [])
    | _ => [a])
  | none => []
def asK (g : Addr → Option Obj) : List Addr := mainGlobals :: (match g mainGlobals with
  | some o => (dvals o).flatMap (restA g)
  | none => [])
def exG (g : Addr → Option Obj) : Bool × He.AlD := (exK (He.frG g (asK g)), He.obsD fa fn (He.frG g (asK g)))
abbrev hk : PySem.W.Hook where
  α := Bool × He.AlD
  obs := fun s => exG s.heap.get?
  val := fun _ => (true, He.valD fn)
  says := fun _ h => ∃ K : PySem.W.Frag, K.In h ∧ He.SaysD fa fn K ∧ exK K = true
  of := fun _ _ e => ⟨_, He.frG_in, (Prod.mk.inj e).2, (Prod.mk.inj e).1⟩
  keeps := fun _ _ _ ⟨K, hK, c⟩ k => ⟨K, PySem.W.Frag.In.keeps hK k, c⟩
def ob (s : PySem.W.SharedT) : Bool × He.AlD := exG (HandSHeadRun.getT s)
theorem ob_eq (s : PySem.W.SharedT) : ob s = hk.obs s.abs := by
  show exG (HandSHeadRun.getT s) = exG s.abs.heap.get?
  rw [show HandSHeadRun.getT s = s.abs.heap.get? from funext (HandSHeadRun.getT_eq s)]

theorem run (w : World) : HandSHeadRun.RunEq R (PySem.W.view R.prog [90]) hk ob 12000 lo w := by
  intro os
  kernel_rfl
end K78
end
section
set_option Elab.async false
namespace K78
/-! sums -/
def S : Nat → (Nat → Int) → Int
  | 0, _ => 0
  | n + 1, f => S n f + f n
theorem S_congr {n : Nat} {f g : Nat → Int} (h : ∀ i, i < n → f i = g i) : S n f = S n g := by
  induction n with
  | zero => rfl
  | succ n ih =>
    show S n f + f n = S n g + g n
    rw [ih fun i hi => h i (Nat.lt_succ_of_lt hi), h n (Nat.lt_succ_self n)]
theorem S_zero (n : Nat) : S n (fun _ => 0) = 0 := by
  induction n with
  | zero => rfl
  | succ n ih => show S n _ + 0 = 0; rw [ih]; rfl
theorem S_add (n : Nat) (f g : Nat → Int) : S n (fun i => f i + g i) = S n f + S n g := by
  induction n with
  | zero => rfl
  | succ n ih => show S n _ + (f n + g n) = S n f + f n + (S n g + g n); rw [ih]; omega
theorem S_sub (n : Nat) (f g : Nat → Int) : S n (fun i => f i - g i) = S n f - S n g := by
  induction n with
  | zero => rfl
  | succ n ih => show S n _ + (f n - g n) = S n f + f n - (S n g + g n); rw [ih]; omega
theorem S_mul (n : Nat) (k : Int) (f : Nat → Int) : S n (fun i => k * f i) = k * S n f := by
  induction n with
  | zero => show (0 : Int) = k * 0; omega
  | succ n ih => show S n _ + k * f n = k * (S n f + f n); rw [ih, Int.mul_add]
theorem S_le {n : Nat} {f g : Nat → Int} (h : ∀ i, i < n → f i ≤ g i) : S n f ≤ S n g := by
  induction n with
  | zero => exact Int.le_refl _
  | succ n ih =>
    have h1 := ih fun i hi => h i (Nat.lt_succ_of_lt hi)
    have h2 := h n (Nat.lt_succ_self n)
    show S n f + f n ≤ S n g + g n
    omega
theorem S_nonneg {n : Nat} {f : Nat → Int} (h : ∀ i, i < n → 0 ≤ f i) : 0 ≤ S n f := by
  have := S_le (f := fun _ => 0) h
  rw [S_zero] at this
  exact this
theorem S_point (n : Nat) (k : Nat) (d : Int) (hk : k < n) : S n (fun i => if i = k then d else 0) = d := by
  induction n with
  | zero => omega
  | succ n ih =>
    show S n _ + (if n = k then d else 0) = d
    by_cases h : n = k
    · rw [if_pos h, S_congr (g := fun _ => 0) (fun i hi => if_neg (by omega)), S_zero]; omega
    · rw [if_neg h, ih (by omega)]; omega
theorem S_bump (n : Nat) (f : Nat → Int) (k : Nat) (d : Int) (hk : k < n) : S n (fun i => if i = k then f i + d else f i) = S n f + d := by
  have e := S_add n f (fun i => if i = k then d else 0)
  rw [S_point n k d hk] at e
  rw [← e]
  refine S_congr fun i _ => ?_
  by_cases h : i = k
  · rw [if_pos h, if_pos h]
  · rw [if_neg h, if_neg h]; omega
theorem S_swap (m n : Nat) (f : Nat → Nat → Int) : S m (fun i => S n fun j => f i j) = S n fun j => S m fun i => f i j := by
  induction m with
  | zero => show (0 : Int) = S n fun _ => 0; rw [S_zero]
  | succ m ih =>
    show S m _ + S n (fun j => f m j) = S n fun j => S m (fun i => f i j) + f m j
    rw [ih, S_add]
theorem S_ge_one {n : Nat} {f : Nat → Int} (h : ∀ i, i < n → 0 ≤ f i) {k : Nat} (hk : k < n) : f k ≤ S n f := by
  have := S_bump n f k (-f k) hk
  have h2 : 0 ≤ S n (fun i => if i = k then f i + -f k else f i) := S_nonneg fun i hi => by
    by_cases e : i = k
    · rw [if_pos e, e]; omega
    · rw [if_neg e]; exact h i hi
  omega
/-- a sum above one of its terms has another term above 0 -/
theorem S_other {n : Nat} {f : Nat → Int} {k : Nat} (hk : k < n) (h : f k < S n f) : ∃ i, i < n ∧ i ≠ k ∧ 0 < f i := by
  refine Classical.byContradiction fun hn => ?_
  have h1 : S n f ≤ S n (fun i => if i = k then f k else 0) := S_le fun i hi => by
    by_cases e : i = k
    · rw [if_pos e, e]; exact Int.le_refl _
    · rw [if_neg e]
      refine Int.not_lt.mp fun q => hn ⟨i, hi, e, q⟩
  rw [S_point n k (f k) hk] at h1
  omega
/-! matrices -/
def bump (x : Nat → Nat → Int) (i j : Nat) (d : Int) : Nat → Nat → Int := fun k l => if k = i ∧ l = j then x k l + d else x k l
def row (n : Nat) (x : Nat → Nat → Int) (i : Nat) : Int := S n (x i)
def col (m : Nat) (x : Nat → Nat → Int) (j : Nat) : Int := S m fun i => x i j
def dot (m n : Nat) (p x : Nat → Nat → Int) : Int := S m fun i => S n fun j => p i j * x i j
theorem row_bump {n : Nat} (x : Nat → Nat → Int) (i j : Nat) (d : Int) (hj : j < n) (k : Nat) : row n (bump x i j d) k = row n x k + if k = i then d else 0 := by
  unfold row bump
  by_cases h : k = i
  · rw [if_pos h, ← S_bump n (x k) j d hj]
    refine S_congr fun l _ => ?_
    by_cases e : l = j
    · rw [if_pos ⟨h, e⟩, if_pos e]
    · rw [if_neg (fun q => e q.2), if_neg e]
  · rw [if_neg h, Int.add_zero]
    exact S_congr fun l _ => if_neg fun q => h q.1
theorem col_bump {m : Nat} (x : Nat → Nat → Int) (i j : Nat) (d : Int) (hi : i < m) (l : Nat) : col m (bump x i j d) l = col m x l + if l = j then d else 0 := by
  unfold col bump
  by_cases h : l = j
  · rw [if_pos h, ← S_bump m (fun k => x k l) i d hi]
    refine S_congr fun k _ => ?_
    by_cases e : k = i
    · rw [if_pos ⟨e, h⟩, if_pos e]
    · rw [if_neg (fun q => e q.1), if_neg e]
  · rw [if_neg h, Int.add_zero]
    exact S_congr fun k _ => if_neg fun q => h q.2
theorem dot_bump {m n : Nat} (p x : Nat → Nat → Int) (i j : Nat) (d : Int) (hi : i < m) (hj : j < n) : dot m n p (bump x i j d) = dot m n p x + p i j * d := by
  unfold dot
  rw [← S_bump m (fun k => S n fun l => p k l * x k l) i (p i j * d) hi]
  refine S_congr fun k _ => ?_
  by_cases h : k = i
  · rw [if_pos h, ← S_bump n (fun l => p k l * x k l) j (p i j * d) hj]
    refine S_congr fun l _ => ?_
    unfold bump
    by_cases e : l = j
    · rw [if_pos ⟨h, e⟩, if_pos e, Int.mul_add, h, e]
    · rw [if_neg (fun q => e q.2), if_neg e]
  · rw [if_neg h]
    refine S_congr fun l _ => ?_
    unfold bump
    rw [if_neg fun q => h q.1]
theorem bump_same (x : Nat → Nat → Int) (i j : Nat) (d : Int) : bump x i j d i j = x i j + d := if_pos ⟨rfl, rfl⟩
theorem bump_ne (x : Nat → Nat → Int) {i j k l : Nat} (d : Int) (h : ¬ (k = i ∧ l = j)) : bump x i j d k l = x k l := if_neg h
def total (m n : Nat) (x : Nat → Nat → Int) : Int := dot m n (fun _ _ => 1) x
theorem total_row (m n : Nat) (x : Nat → Nat → Int) : total m n x = S m fun i => row n x i := by
  unfold total dot row
  exact S_congr fun i _ => S_congr fun j _ => Int.one_mul _
theorem total_col (m n : Nat) (x : Nat → Nat → Int) : total m n x = S n fun j => col m x j := by
  rw [total_row]
  exact S_swap m n x
/-! the pass of an order -/
def fset (a : Nat → Int) (i : Nat) (v : Int) : Nat → Int := fun k => if k = i then v else a k
def lesser (x y : Int) : Int := if y < x then y else x
def serve : List (Nat × Nat) → (Nat → Int) → (Nat → Int) → List ((Nat × Nat) × Int)
  | [], _, _ => []
  | (i, j) :: r, a, b => ((i, j), lesser (a i) (b j)) :: serve r (fset a i (a i - lesser (a i) (b j))) (fset b j (b j - lesser (a i) (b j)))
def lcost (p : Nat → Nat → Int) : List ((Nat × Nat) × Int) → Int
  | [] => 0
  | (q, v) :: r => p q.1 q.2 * v + lcost p r
structure Feas (m n : Nat) (L : List (Nat × Nat)) (a b : Nat → Int) (x : Nat → Nat → Int) : Prop where
  nn : ∀ i j, 0 ≤ x i j
  sup : ∀ i j, (i, j) ∉ L → x i j = 0
  r : ∀ i, i < m → row n x i ≤ a i
  c : ∀ j, j < n → col m x j ≤ b j
/-- no fault among L: A: columns count, B: rows count -/
def Okl (c : Nat → Nat → Option Int) (A B : Prop) (p : Nat → Nat → Int) : List (Nat × Nat) → Prop
  | [] => True
  | (i, j) :: r =>
    (∀ k l, k ≠ i → l ≠ j → (i, l) ∈ r → (k, j) ∈ r → (c k l).isSome = true ∧ p i j + p k l ≤ p i l + p k j) ∧
    (A → ∀ k, k ≠ i → (k, j) ∈ r → p i j ≤ p k j) ∧ (B → ∀ l, l ≠ j → (i, l) ∈ r → p i j ≤ p i l) ∧ Okl c A B p r
/-- which lines are used up -/
def Tight (m n : Nat) (A B : Prop) (a b : Nat → Int) (x : Nat → Nat → Int) : Prop :=
  ((∀ i, i < m → row n x i = a i) ∧ ∀ j, j < n → col m x j = b j) ∨ (A ∧ ∀ j, j < n → col m x j = b j) ∨ (B ∧ ∀ i, i < m → row n x i = a i)
theorem lesser_le_l (x y : Int) : lesser x y ≤ x := by unfold lesser; split <;> omega
theorem lesser_le_r (x y : Int) : lesser x y ≤ y := by unfold lesser; split <;> omega
theorem lesser_or (x y : Int) : lesser x y = x ∨ lesser x y = y := by unfold lesser; split <;> simp
theorem row_nn {n : Nat} {x : Nat → Nat → Int} (h : ∀ i j, 0 ≤ x i j) (i : Nat) : 0 ≤ row n x i := S_nonneg fun j _ => h i j
theorem col_nn {m : Nat} {x : Nat → Nat → Int} (h : ∀ i j, 0 ≤ x i j) (j : Nat) : 0 ≤ col m x j := S_nonneg fun i _ => h i j
/-- THE GREEDY THEOREM: a pass without faults costs at most what any serving costs that uses as much -/
theorem greedy {m n : Nat} {c : Nat → Nat → Option Int} {A B : Prop} {p : Nat → Nat → Int} : ∀ (L : List (Nat × Nat)) (a b : Nat → Int) (x : Nat → Nat → Int),
    L.Nodup → (∀ q ∈ L, q.1 < m ∧ q.2 < n ∧ (c q.1 q.2).isSome = true) → (∀ k l, k < m → l < n → (c k l).isSome = true → (k, l) ∉ L → a k = 0 ∨ b l = 0) →
    Okl c A B p L → Feas m n L a b x → Tight m n A B a b x →
    lcost p (serve L a b) ≤ dot m n p x ∧ lcost (fun _ _ => 1) (serve L a b) = total m n x := by
  intro L
  induction L with
  | nil =>
    intro a b x _ _ _ _ F _
    have z : ∀ q : Nat → Nat → Int, dot m n q x = 0 := fun q => by
      unfold dot
      rw [S_congr (g := fun _ => 0) (fun i _ => ?_), S_zero]
      rw [S_congr (g := fun _ => 0) (fun j _ => ?_), S_zero]
      rw [F.sup i j (by simp), Int.mul_zero]
    exact ⟨by rw [z]; exact Int.le_refl _, (z _).symm⟩
  | cons q r ih =>
    obtain ⟨i, j⟩ := q
    intro a b x nd hL used ok F T
    obtain ⟨hcr, hA, hB, hok⟩ := ok
    obtain ⟨hij, ndr⟩ := List.nodup_cons.mp nd
    obtain ⟨hi, hj, hc⟩ := hL (i, j) List.mem_cons_self
    have hi : i < m := hi
    have hj : j < n := hj
    have hc : (c i j).isSome = true := hc
    -- by how much x falls short at (i, j)
    have main : ∀ (k : Nat) (x : Nat → Nat → Int), Feas m n ((i, j) :: r) a b x → Tight m n A B a b x → (lesser (a i) (b j) - x i j).toNat = k →
        lcost p (serve ((i, j) :: r) a b) ≤ dot m n p x ∧ lcost (fun _ _ => 1) (serve ((i, j) :: r) a b) = total m n x := by
      intro k
      induction k with
      | zero =>
        intro x F T hk
        have hxr : x i j ≤ row n x i := S_ge_one (f := x i) (fun l _ => F.nn i l) hj
        have hxc : x i j ≤ col m x j := S_ge_one (f := fun k => x k j) (fun k _ => F.nn k j) hi
        have hra := F.r i hi
        have hcb := F.c j hj
        have h1 := lesser_le_l (a i) (b j)
        have h2 := lesser_le_r (a i) (b j)
        have h3 := lesser_or (a i) (b j)
        have hx : x i j = lesser (a i) (b j) := by omega
        have hx0 := F.nn i j
        generalize hv : lesser (a i) (b j) = v at *
        have rb : ∀ k, row n (bump x i j (-v)) k = row n x k + if k = i then -v else 0 := row_bump x i j (-v) hj
        have cb : ∀ l, col m (bump x i j (-v)) l = col m x l + if l = j then -v else 0 := col_bump x i j (-v) hi
        have fa : ∀ k, fset a i (a i - v) k = a k + if k = i then -v else 0 := fun k => by
          unfold fset
          by_cases e : k = i
          · rw [if_pos e, if_pos e, e]; omega
          · rw [if_neg e, if_neg e]; omega
        have fb : ∀ l, fset b j (b j - v) l = b l + if l = j then -v else 0 := fun l => by
          unfold fset
          by_cases e : l = j
          · rw [if_pos e, if_pos e, e]; omega
          · rw [if_neg e, if_neg e]; omega
        have F' : Feas m n r (fset a i (a i - v)) (fset b j (b j - v)) (bump x i j (-v)) := by
          refine ⟨fun k l => ?_, fun k l hkl => ?_, fun k hk => ?_, fun l hl => ?_⟩
          · unfold bump
            split
            · rename_i e; rw [e.1, e.2]; omega
            · exact F.nn k l
          · unfold bump
            split
            · rename_i e; rw [e.1, e.2]; omega
            · rename_i e
              refine F.sup k l fun z => ?_
              rcases List.mem_cons.mp z with z | z
              · cases z; exact e ⟨rfl, rfl⟩
              · exact hkl z
          · have := F.r k hk
            rw [rb, fa]; omega
          · have := F.c l hl
            rw [cb, fb]; omega
        have T' : Tight m n A B (fset a i (a i - v)) (fset b j (b j - v)) (bump x i j (-v)) := by
          rcases T with ⟨t1, t2⟩ | ⟨hA, t2⟩ | ⟨hB, t1⟩
          · exact .inl ⟨fun k hk => by rw [rb, fa, t1 k hk], fun l hl => by rw [cb, fb, t2 l hl]⟩
          · exact .inr (.inl ⟨hA, fun l hl => by rw [cb, fb, t2 l hl]⟩)
          · exact .inr (.inr ⟨hB, fun k hk => by rw [rb, fa, t1 k hk]⟩)
        have used' : ∀ k l, k < m → l < n → (c k l).isSome = true → (k, l) ∉ r → fset a i (a i - v) k = 0 ∨ fset b j (b j - v) l = 0 := fun k l hk hl hc hkl => by
          rw [fa, fb]
          by_cases e : k = i ∧ l = j
          · rw [if_pos e.1, if_pos e.2, e.1, e.2]; omega
          · have u := used k l hk hl hc fun z => by
              rcases List.mem_cons.mp z with z | z
              · cases z; exact e ⟨rfl, rfl⟩
              · exact hkl z
            rcases u with u | u
            · left
              by_cases ek : k = i
              · rw [if_pos ek]; rw [ek] at u ⊢; omega
              · rw [if_neg ek]; omega
            · right
              by_cases el : l = j
              · rw [if_pos el]; rw [el] at u ⊢; omega
              · rw [if_neg el]; omega
        have h := ih _ _ _ ndr (fun q hq => hL q (List.mem_cons_of_mem _ hq)) used' hok F' T'
        have d1 := dot_bump (m := m) (n := n) p x i j (-v) hi hj
        have d2 := dot_bump (m := m) (n := n) (fun _ _ => 1) x i j (-v) hi hj
        have d2' : total m n (bump x i j (-v)) = total m n x + 1 * (-v) := d2
        refine ⟨?_, ?_⟩
        · show p i j * lesser (a i) (b j) + lcost p (serve r (fset a i (a i - lesser (a i) (b j))) (fset b j (b j - lesser (a i) (b j)))) ≤ _
          rw [hv]
          have e : p i j * -v = -(p i j * v) := Int.mul_neg _ _
          omega
        · show 1 * lesser (a i) (b j) + lcost (fun _ _ => 1) (serve r (fset a i (a i - lesser (a i) (b j))) (fset b j (b j - lesser (a i) (b j)))) = _
          rw [hv]
          omega
      | succ k ihk =>
        intro x F T hk
        have hlt : x i j < lesser (a i) (b j) := by omega
        have h1 := lesser_le_l (a i) (b j)
        have h2 := lesser_le_r (a i) (b j)
        have mem_of : ∀ {k l : Nat}, 0 < x k l → (k, l) ∈ (i, j) :: r := fun {k l} h => Classical.byContradiction fun z => by
          rw [F.sup k l z] at h; omega
        have mem_r : ∀ {k l : Nat}, 0 < x k l → ¬ (k = i ∧ l = j) → (k, l) ∈ r := fun {k l} h e => by
          rcases List.mem_cons.mp (mem_of h) with z | z
          · cases z; exact absurd ⟨rfl, rfl⟩ e
          · exact z
        -- the cross move
        have cross : ∀ {l k' : Nat}, l < n → l ≠ j → 0 < x i l → k' < m → k' ≠ i → 0 < x k' j →
            lcost p (serve ((i, j) :: r) a b) ≤ dot m n p x ∧ lcost (fun _ _ => 1) (serve ((i, j) :: r) a b) = total m n x := fun {l k'} hl hlj hxl hk' hki hxk => by
          have ml := mem_r hxl fun e => hlj e.2
          have mk := mem_r hxk fun e => hki e.1
          obtain ⟨hs, hp⟩ := hcr k' l hki hlj ml mk
          have hra : 0 < a k' := Int.lt_of_lt_of_le (Int.lt_of_lt_of_le hxk (S_ge_one (f := x k') (fun l _ => F.nn k' l) hj)) (F.r k' hk')
          have hrb : 0 < b l := Int.lt_of_lt_of_le (Int.lt_of_lt_of_le hxl (S_ge_one (f := fun k => x k l) (fun k _ => F.nn k l) hi)) (F.c l hl)
          have min : (k', l) ∈ (i, j) :: r := Classical.byContradiction fun z => by
            rcases used k' l hk' hl hs z with u | u <;> omega
          let y := bump (bump (bump (bump x i j 1) k' l 1) i l (-1)) k' j (-1)
          have hy : ∀ u v, y u v = if u = i ∧ v = j then x u v + 1 else if u = k' ∧ v = l then x u v + 1 else if u = i ∧ v = l then x u v - 1 else if u = k' ∧ v = j then x u v - 1 else x u v := fun u v => by
            show bump (bump (bump (bump x i j 1) k' l 1) i l (-1)) k' j (-1) u v = _
            unfold bump
            by_cases e1 : u = i
            · have n1 : ¬ u = k' := by omega
              by_cases e2 : v = j
              · have n2 : ¬ v = l := by omega
                simp [e1, e2, n1, n2, hki.symm, hlj.symm]
              · by_cases e3 : v = l
                · simp [e1, e3, hki.symm, hlj]; omega
                · simp [e1, e2, e3]
            · by_cases e4 : u = k'
              · by_cases e2 : v = j
                · simp [e4, e2, hki, hlj.symm]; omega
                · by_cases e3 : v = l
                  · simp [e4, e3, hki, hlj]
                  · simp [e2, e3]
              · simp [e1, e4]
          have rb : ∀ u, row n y u = row n x u := fun u => by
            show row n (bump (bump (bump (bump x i j 1) k' l 1) i l (-1)) k' j (-1)) u = _
            rw [row_bump _ _ _ _ hj, row_bump _ _ _ _ hl, row_bump _ _ _ _ hl, row_bump _ _ _ _ hj]
            by_cases e1 : u = i <;> by_cases e2 : u = k' <;> simp [e1, e2] <;> omega
          have cb : ∀ v, col m y v = col m x v := fun v => by
            show col m (bump (bump (bump (bump x i j 1) k' l 1) i l (-1)) k' j (-1)) v = _
            rw [col_bump _ _ _ _ hk', col_bump _ _ _ _ hi, col_bump _ _ _ _ hk', col_bump _ _ _ _ hi]
            by_cases e1 : v = j <;> by_cases e2 : v = l <;> simp [e1, e2] <;> omega
          have db : ∀ q, dot m n q y = dot m n q x + q i j + q k' l - q i l - q k' j := fun q => by
            show dot m n q (bump (bump (bump (bump x i j 1) k' l 1) i l (-1)) k' j (-1)) = _
            rw [dot_bump _ _ _ _ _ hk' hj, dot_bump _ _ _ _ _ hi hl, dot_bump _ _ _ _ _ hk' hl, dot_bump _ _ _ _ _ hi hj]
            omega
          have Fy : Feas m n ((i, j) :: r) a b y := by
            refine ⟨fun u v => ?_, fun u v huv => ?_, fun u hu => by rw [rb]; exact F.r u hu, fun v hv => by rw [cb]; exact F.c v hv⟩
            · have := F.nn u v
              rw [hy]
              split
              · omega
              · split
                · omega
                · split
                  · rename_i e; rw [e.1, e.2]; omega
                  · split
                    · rename_i e; rw [e.1, e.2]; omega
                    · omega
            · have z := F.sup u v huv
              rw [hy, if_neg fun e => huv (by rw [e.1, e.2]; exact List.mem_cons_self), if_neg fun e => huv (by rw [e.1, e.2]; exact min),
                if_neg fun e => huv (by rw [e.1, e.2]; exact mem_of hxl), if_neg fun e => huv (by rw [e.1, e.2]; exact mem_of hxk)]
              exact z
          have Ty : Tight m n A B a b y := by
            unfold Tight at T ⊢
            simp only [rb, cb]
            exact T
          have yij : y i j = x i j + 1 := by rw [hy, if_pos ⟨rfl, rfl⟩]
          have h := ihk y Fy Ty (by rw [yij]; omega)
          refine ⟨?_, ?_⟩
          · have := db p; omega
          · have h2 := h.2
            unfold total at h2 ⊢
            rw [db] at h2; omega
        -- one line has slack
        have lineR : (∀ u, u < m → row n x u ≤ a u) → row n x i < a i → A → (∀ v, v < n → col m x v = b v) → ∀ {k' : Nat}, k' < m → k' ≠ i → 0 < x k' j →
            lcost p (serve ((i, j) :: r) a b) ≤ dot m n p x ∧ lcost (fun _ _ => 1) (serve ((i, j) :: r) a b) = total m n x := fun hr hsl hAA hcc {k'} hk' hki hxk => by
          have mk := mem_r hxk fun e => hki e.1
          have hp := hA hAA k' hki mk
          have rb : ∀ u, row n (bump (bump x i j 1) k' j (-1)) u = row n x u + (if u = i then 1 else 0) + if u = k' then -1 else 0 := fun u => by
            rw [row_bump _ _ _ _ hj, row_bump _ _ _ _ hj]
          have cb : ∀ v, col m (bump (bump x i j 1) k' j (-1)) v = col m x v := fun v => by
            rw [col_bump _ _ _ _ hk', col_bump _ _ _ _ hi]
            by_cases e1 : v = j <;> simp [e1] <;> omega
          have db : ∀ q, dot m n q (bump (bump x i j 1) k' j (-1)) = dot m n q x + q i j - q k' j := fun q => by
            rw [dot_bump _ _ _ _ _ hk' hj, dot_bump _ _ _ _ _ hi hj]
            omega
          have hy : ∀ u v, bump (bump x i j 1) k' j (-1) u v = if u = i ∧ v = j then x u v + 1 else if u = k' ∧ v = j then x u v - 1 else x u v := fun u v => by
            unfold bump
            by_cases e2 : v = j
            · by_cases e1 : u = i
              · have n1 : ¬ u = k' := by omega
                simp [e1, e2, hki.symm]
              · by_cases e4 : u = k'
                · simp [e4, e2, hki]; omega
                · simp [e1, e4]
            · simp [e2]
          have Fy : Feas m n ((i, j) :: r) a b (bump (bump x i j 1) k' j (-1)) := by
            refine ⟨fun u v => ?_, fun u v huv => ?_, fun u hu => ?_, fun v hv => by rw [cb]; exact F.c v hv⟩
            · have := F.nn u v
              rw [hy]
              split
              · omega
              · split
                · rename_i e; rw [e.1, e.2]; omega
                · omega
            · have z := F.sup u v huv
              rw [hy, if_neg fun e => huv (by rw [e.1, e.2]; exact List.mem_cons_self), if_neg fun e => huv (by rw [e.1, e.2]; exact mem_of hxk)]
              exact z
            · have := hr u hu
              rw [rb]
              by_cases e1 : u = i
              · have n1 : ¬ u = k' := by omega
                rw [if_pos e1, if_neg n1]; rw [e1]; omega
              · rw [if_neg e1]
                split <;> omega
          have Ty : Tight m n A B a b (bump (bump x i j 1) k' j (-1)) := .inr (.inl ⟨hAA, fun v hv => by rw [cb]; exact hcc v hv⟩)
          have yij : bump (bump x i j 1) k' j (-1) i j = x i j + 1 := by rw [hy, if_pos ⟨rfl, rfl⟩]
          have h := ihk _ Fy Ty (by rw [yij]; omega)
          refine ⟨?_, ?_⟩
          · have := db p; omega
          · have h2 := h.2
            unfold total at h2 ⊢
            rw [db] at h2; omega
        have lineC : (∀ v, v < n → col m x v ≤ b v) → col m x j < b j → B → (∀ u, u < m → row n x u = a u) → ∀ {l : Nat}, l < n → l ≠ j → 0 < x i l →
            lcost p (serve ((i, j) :: r) a b) ≤ dot m n p x ∧ lcost (fun _ _ => 1) (serve ((i, j) :: r) a b) = total m n x := fun hcl hsl hBB hrr {l} hl hlj hxl => by
          have ml := mem_r hxl fun e => hlj e.2
          have hp := hB hBB l hlj ml
          have rb : ∀ u, row n (bump (bump x i j 1) i l (-1)) u = row n x u := fun u => by
            rw [row_bump _ _ _ _ hl, row_bump _ _ _ _ hj]
            by_cases e1 : u = i <;> simp [e1] <;> omega
          have cb : ∀ v, col m (bump (bump x i j 1) i l (-1)) v = col m x v + (if v = j then 1 else 0) + if v = l then -1 else 0 := fun v => by
            rw [col_bump _ _ _ _ hi, col_bump _ _ _ _ hi]
          have db : ∀ q, dot m n q (bump (bump x i j 1) i l (-1)) = dot m n q x + q i j - q i l := fun q => by
            rw [dot_bump _ _ _ _ _ hi hl, dot_bump _ _ _ _ _ hi hj]
            omega
          have hy : ∀ u v, bump (bump x i j 1) i l (-1) u v = if u = i ∧ v = j then x u v + 1 else if u = i ∧ v = l then x u v - 1 else x u v := fun u v => by
            unfold bump
            by_cases e2 : u = i
            · by_cases e1 : v = j
              · have n1 : ¬ v = l := by omega
                simp [e1, e2, hlj.symm]
              · by_cases e4 : v = l
                · simp [e4, e2, hlj]; omega
                · simp [e1, e4]
            · simp [e2]
          have Fy : Feas m n ((i, j) :: r) a b (bump (bump x i j 1) i l (-1)) := by
            refine ⟨fun u v => ?_, fun u v huv => ?_, fun u hu => by rw [rb]; exact F.r u hu, fun v hv => ?_⟩
            · have := F.nn u v
              rw [hy]
              split
              · omega
              · split
                · rename_i e; rw [e.1, e.2]; omega
                · omega
            · have z := F.sup u v huv
              rw [hy, if_neg fun e => huv (by rw [e.1, e.2]; exact List.mem_cons_self), if_neg fun e => huv (by rw [e.1, e.2]; exact mem_of hxl)]
              exact z
            · have := hcl v hv
              rw [cb]
              by_cases e1 : v = j
              · have n1 : ¬ v = l := by omega
                rw [if_pos e1, if_neg n1]; rw [e1]; omega
              · rw [if_neg e1]
                split <;> omega
          have Ty : Tight m n A B a b (bump (bump x i j 1) i l (-1)) := .inr (.inr ⟨hBB, fun u hu => by rw [rb]; exact hrr u hu⟩)
          have yij : bump (bump x i j 1) i l (-1) i j = x i j + 1 := by rw [hy, if_pos ⟨rfl, rfl⟩]
          have h := ihk _ Fy Ty (by rw [yij]; omega)
          refine ⟨?_, ?_⟩
          · have := db p; omega
          · have h2 := h.2
            unfold total at h2 ⊢
            rw [db] at h2; omega
        have inRow : row n x i = a i → ∃ l, l < n ∧ l ≠ j ∧ 0 < x i l := fun e => S_other (f := x i) hj (by show x i j < row n x i; omega)
        have inCol : col m x j = b j → ∃ k, k < m ∧ k ≠ i ∧ 0 < x k j := fun e => S_other (f := fun k => x k j) hi (by show x i j < col m x j; omega)
        rcases T with ⟨t1, t2⟩ | ⟨hAA, t2⟩ | ⟨hBB, t1⟩
        · obtain ⟨l, h1, h2, h3⟩ := inRow (t1 i hi)
          obtain ⟨k', h4, h5, h6⟩ := inCol (t2 j hj)
          exact cross h1 h2 h3 h4 h5 h6
        · obtain ⟨k', h4, h5, h6⟩ := inCol (t2 j hj)
          by_cases e : row n x i = a i
          · obtain ⟨l, h1, h2, h3⟩ := inRow e
            exact cross h1 h2 h3 h4 h5 h6
          · exact lineR F.r (by have := F.r i hi; omega) hAA t2 h4 h5 h6
        · obtain ⟨l, h1, h2, h3⟩ := inRow (t1 i hi)
          by_cases e : col m x j = b j
          · obtain ⟨k', h4, h5, h6⟩ := inCol e
            exact cross h1 h2 h3 h4 h5 h6
          · exact lineC F.c (by have := F.c j hj; omega) hBB t1 h1 h2 h3
    exact main _ x F T rfl
end K78
end
section
set_option Elab.async false
namespace K78
/-! leads: from one order to the other, neighbour by neighbour -/
section
variable {α : Type}
theorem split_unique {A A' B B' : List α} {y : α} (hn : (A ++ y :: B).Nodup) (h : A ++ y :: B = A' ++ y :: B') : A = A' ∧ B = B' := by
  induction A generalizing A' with
  | nil =>
    cases A' with
    | nil => injection h with _ h; exact ⟨rfl, h⟩
    | cons a A' =>
      exfalso
      injection h with h1 h2
      have := (List.nodup_cons.mp hn).1
      apply this
      rw [h2]
      simp
  | cons a A ih =>
    cases A' with
    | nil =>
      exfalso
      injection h with h1 h2
      have := (List.nodup_cons.mp hn).1
      apply this
      rw [h1]
      simp
    | cons a' A' =>
      injection h with h1 h2
      obtain ⟨e1, e2⟩ := ih (List.nodup_cons.mp hn).2 h2
      exact ⟨by rw [h1, e1], e2⟩
theorem sub_split {S T L : List α} {y : α} (h : (S ++ y :: T).Sublist L) : ∃ A B, L = A ++ y :: B ∧ T.Sublist B := by
  obtain ⟨r1, r2, e, _, h2⟩ := List.append_sublist_iff.mp h
  obtain ⟨q1, q2, e2, hm, h3⟩ := List.cons_sublist_iff.mp h2
  obtain ⟨s, t, e3⟩ := List.append_of_mem hm
  refine ⟨r1 ++ s, t ++ q2, ?_, h3.trans (List.sublist_append_right _ _)⟩
  rw [e, e2, e3]
  simp
/-- for each its followers are among those that it has in the one or in the other -/
def Near (L1 L2 L : List α) : Prop := ∀ A y B, L = A ++ y :: B → (∃ A1 B1, L1 = A1 ++ y :: B1 ∧ ∀ b ∈ B, b ∈ B1) ∨ (∃ A2 B2, L2 = A2 ++ y :: B2 ∧ ∀ b ∈ B, b ∈ B2)
theorem Near.self (L1 L2 : List α) : Near L1 L2 L1 := fun A y B e => .inl ⟨A, B, e, fun _ h => h⟩
/-- x on its way to the place behind P -/
structure Bub (L1 L2 P : List α) (x : α) (U V W L : List α) : Prop where
  l : L = P ++ (U ++ x :: (V ++ W))
  two : ∃ Z, L2 = P ++ x :: Z
  sub : (U ++ (V ++ x :: W)).Sublist L1
  perm : L.Perm L2
  nd : L2.Nodup
theorem Bub.ndl {L1 L2 P U V W L : List α} {x : α} (b : Bub L1 L2 P x U V W L) : L.Nodup := (List.Perm.nodup_iff b.perm).mpr b.nd
theorem Bub.near {L1 L2 P U V W L : List α} {x : α} (h : Bub L1 L2 P x U V W L) : Near L1 L2 L := by
  intro A y B e
  have nd := h.ndl
  obtain ⟨Z, e2⟩ := h.two
  have inB : ∀ b ∈ B, b ∈ L2 ∧ b ∉ A ∧ b ≠ y := fun b hb => by
    rw [e] at nd
    refine ⟨(List.Perm.mem_iff h.perm).mp (by rw [e]; simp [hb]), fun ha => ?_, fun eb => ?_⟩
    · exact (List.nodup_append.mp nd).2.2 b ha b (List.mem_cons_of_mem _ hb) rfl
    · rw [eb] at hb
      exact (List.nodup_cons.mp (List.nodup_append.mp nd).2.1).1 hb
  have hy : y ∈ L := by rw [e]; simp
  rw [h.l] at hy
  rw [List.mem_append] at hy
  rcases hy with hy | hy
  · obtain ⟨P1, P2, eP⟩ := List.append_of_mem hy
    have e3 : L = P1 ++ y :: (P2 ++ (U ++ x :: (V ++ W))) := by rw [h.l, eP]; simp
    have q := split_unique (by rw [← e]; exact nd) (e.symm.trans e3)
    refine .inr ⟨P1, P2 ++ x :: Z, by rw [e2, eP]; simp, fun b hb => ?_⟩
    obtain ⟨h1, h2, h3⟩ := inB b hb
    rw [e2, eP, List.append_assoc, List.mem_append] at h1
    rcases h1 with h1 | h1
    · rw [← q.1] at h1; exact absurd h1 h2
    · rcases List.mem_cons.mp h1 with h1 | h1
      · exact absurd h1 h3
      · exact h1
  · rw [List.mem_append] at hy
    rcases hy with hy | hy
    · obtain ⟨U1, U2, eU⟩ := List.append_of_mem hy
      have e3 : L = (P ++ U1) ++ y :: (U2 ++ x :: (V ++ W)) := by rw [h.l, eU]; simp
      have q := split_unique (by rw [← e]; exact nd) (e.symm.trans e3)
      have hs := h.sub
      rw [eU, List.append_assoc] at hs
      obtain ⟨A1, B1, h1, h2⟩ := sub_split hs
      refine .inl ⟨A1, B1, h1, fun b hb => h2.subset ?_⟩
      rw [q.2] at hb
      show b ∈ U2 ++ (V ++ x :: W)
      simp only [List.mem_append, List.mem_cons] at hb
      rcases hb with hb | hb | hb | hb <;> simp [hb]
    · rcases List.mem_cons.mp hy with hy | hy
      · subst hy
        have e3 : L = (P ++ U) ++ y :: (V ++ W) := by rw [h.l]; simp
        have q := split_unique (by rw [← e]; exact nd) (e.symm.trans e3)
        refine .inr ⟨P, Z, e2, fun b hb => ?_⟩
        obtain ⟨h1, h2, h3⟩ := inB b hb
        rw [e2, List.mem_append] at h1
        rcases h1 with h1 | h1
        · rw [q.1] at h2; exact absurd (List.mem_append_left _ h1) h2
        · rcases List.mem_cons.mp h1 with h1 | h1
          · exact absurd h1 h3
          · exact h1
      · rcases List.mem_append.mp hy with hy | hy
        · obtain ⟨V1, V2, eV⟩ := List.append_of_mem hy
          have e3 : L = (P ++ U ++ x :: V1) ++ y :: (V2 ++ W) := by rw [h.l, eV]; simp
          have q := split_unique (by rw [← e]; exact nd) (e.symm.trans e3)
          have hs : ((U ++ V1) ++ y :: (V2 ++ x :: W)).Sublist L1 := by
            have := h.sub
            rw [eV] at this
            simpa using this
          obtain ⟨A1, B1, h1, h2⟩ := sub_split hs
          refine .inl ⟨A1, B1, h1, fun b hb => h2.subset ?_⟩
          rw [q.2] at hb
          simp only [List.mem_append] at hb
          rcases hb with hb | hb <;> simp [hb]
        · obtain ⟨W1, W2, eW⟩ := List.append_of_mem hy
          have e3 : L = (P ++ U ++ x :: (V ++ W1)) ++ y :: W2 := by rw [h.l, eW]; simp
          have q := split_unique (by rw [← e]; exact nd) (e.symm.trans e3)
          have hs : ((U ++ (V ++ x :: W1)) ++ y :: W2).Sublist L1 := by
            have := h.sub
            rw [eW] at this
            simpa using this
          obtain ⟨A1, B1, h1, h2⟩ := sub_split hs
          refine .inl ⟨A1, B1, h1, fun b hb => h2.subset ?_⟩
          rw [q.2] at hb
          exact hb
/-- one exchange -/
theorem Bub.step {L1 L2 P U V W L : List α} {x y : α} (h : Bub L1 L2 P x (U ++ [y]) V W L) : L = (P ++ U) ++ y :: x :: (V ++ W) ∧ Bub L1 L2 P x U (y :: V) W ((P ++ U) ++ x :: y :: (V ++ W)) := by
  have e : L = (P ++ U) ++ y :: x :: (V ++ W) := by rw [h.l]; simp
  refine ⟨e, by simp, h.two, by simpa using h.sub, ?_, h.nd⟩
  refine List.Perm.trans ?_ h.perm
  rw [e]
  exact List.Perm.append_left _ (List.Perm.swap _ _ _)
/-- between two places: P done, the rest as in the one -/
structure Rest (L1 L2 P T L : List α) : Prop where
  l : L = P ++ T
  two : ∃ Z, L2 = P ++ Z
  sub : T.Sublist L1
  perm : L.Perm L2
  nd : L2.Nodup
theorem Rest.zero {L1 L2 : List α} (h : L1.Perm L2) (nd : L2.Nodup) : Rest L1 L2 [] L1 L1 := ⟨rfl, ⟨L2, rfl⟩, List.Sublist.refl _, h, nd⟩
theorem Rest.bub {L1 L2 P T L Z : List α} {x : α} (h : Rest L1 L2 P T L) (e : L2 = P ++ x :: Z) : ∃ U W, T = U ++ x :: W ∧ Bub L1 L2 P x U [] W L := by
  have hx : x ∈ L := (List.Perm.mem_iff h.perm).mpr (by rw [e]; simp)
  have hnP : x ∉ P := fun hp => by
    have := h.nd
    rw [e] at this
    exact (List.nodup_append.mp this).2.2 x hp x List.mem_cons_self rfl
  rw [h.l, List.mem_append] at hx
  rcases hx with hx | hx
  · exact absurd hx hnP
  · obtain ⟨U, W, eT⟩ := List.append_of_mem hx
    exact ⟨U, W, eT, by rw [h.l, eT]; simp, ⟨Z, e⟩, by have := h.sub; rw [eT] at this; simpa using this, h.perm, h.nd⟩
theorem Bub.rest {L1 L2 P V W L : List α} {x : α} (h : Bub L1 L2 P x [] V W L) : Rest L1 L2 (P ++ [x]) (V ++ W) L := by
  obtain ⟨Z, e⟩ := h.two
  refine ⟨by rw [h.l]; simp, ⟨Z, by rw [e]; simp⟩, ?_, h.perm, h.nd⟩
  have := h.sub
  refine List.Sublist.trans ?_ this
  simp
theorem Rest.done {L1 L2 T L : List α} (h : Rest L1 L2 L2 T L) : L = L2 := by
  have hl := h.perm.length_eq
  rw [h.l, List.length_append] at hl
  have : T = [] := List.eq_nil_of_length_eq_zero (by omega)
  rw [h.l, this, List.append_nil]
/-- the orders on the way, exchange by exchange -/
structure Ways (G : List α → Prop) (L1 : List α) (ks : List Nat) (os : List (List α)) : Prop where
  len : os.length = ks.length + 1
  zero : os[0]? = some L1
  step : ∀ i k, ks[i]? = some k → ∃ A x y B, os[i]? = some (A ++ x :: y :: B) ∧ k = A.length ∧ os[i + 1]? = some (A ++ y :: x :: B)
  good : ∀ L ∈ os, G L
theorem Ways.start {G : List α → Prop} {L1 : List α} (h : G L1) : Ways G L1 [] [L1] := ⟨rfl, rfl, fun i k e => by simp at e, fun L hL => by rw [List.mem_singleton] at hL; rw [hL]; exact h⟩
theorem Ways.snoc {G : List α → Prop} {L1 A B : List α} {x y : α} {ks : List Nat} {os : List (List α)} (w : Ways G L1 ks os) (hl : os[ks.length]? = some (A ++ x :: y :: B)) (hg : G (A ++ y :: x :: B)) : Ways G L1 (ks ++ [A.length]) (os ++ [A ++ y :: x :: B]) := by
  refine ⟨by rw [List.length_append, List.length_append, w.len]; rfl, ?_, fun i k e => ?_, fun L hL => ?_⟩
  · rw [List.getElem?_append_left (by rw [w.len]; omega)]; exact w.zero
  · by_cases hi : i < ks.length
    · rw [List.getElem?_append_left hi] at e
      obtain ⟨A', x', y', B', h1, h2, h3⟩ := w.step i k e
      exact ⟨A', x', y', B', by rw [List.getElem?_append_left (by rw [w.len]; omega)]; exact h1, h2, by rw [List.getElem?_append_left (by rw [w.len]; omega)]; exact h3⟩
    · have h1 := (List.getElem?_eq_some_iff.mp e).1
      rw [List.length_append, List.length_singleton] at h1
      have h2 : i = ks.length := by omega
      subst h2
      rw [List.getElem?_append_right (Nat.le_refl _), Nat.sub_self] at e
      refine ⟨A, x, y, B, by rw [List.getElem?_append_left (by rw [w.len]; omega)]; exact hl, by simpa using e.symm, ?_⟩
      rw [List.getElem?_append_right (by rw [w.len]; exact Nat.le_refl _), w.len, Nat.sub_self]
      rfl
  · rcases List.mem_append.mp hL with hL | hL
    · exact w.good L hL
    · rw [List.mem_singleton] at hL; rw [hL]; exact hg
end
end K78
end
section
set_option Elab.async false
set_option linter.all false
namespace K78
/-! the flow -/
abbrev Pq := Nat × Nat
def oset (g : Nat → Option Int) (i : Nat) (v : Option Int) : Nat → Option Int := fun k => if k = i then v else g k
theorem oset_same (g : Nat → Option Int) (i : Nat) (v : Option Int) : oset g i v i = v := if_pos rfl
theorem oset_ne (g : Nat → Option Int) {i k : Nat} (v : Option Int) (h : k ≠ i) : oset g i v k = g k := if_neg h
theorem nodup_len : ∀ (m : Nat) (qs : List Nat), qs.Nodup → (∀ i ∈ qs, i < m) → qs.length ≤ m := by
  intro m
  induction m with
  | zero =>
    intro qs _ h
    cases qs with
    | nil => exact Nat.le_refl _
    | cons a r => exact absurd (h a List.mem_cons_self) (Nat.not_lt_zero _)
  | succ m ih =>
    intro qs hn h
    have h1 := ih (qs.erase m) (hn.erase m) fun i hi => by
      have h2 := (hn.mem_erase_iff).mp hi
      have := h i h2.2
      have := h2.1
      omega
    have h2 := List.length_erase (a := m) (l := qs)
    split at h2 <;> omega
section
variable (m n : Nat) (U : Nat → Nat → Bool) (f : Nat → Nat → Int) (sl tl : Nat → Int)
/-- where one came from -/
structure Found (sf tf : Nat → Option Int) (ρ : Nat → Nat) : Prop where
  a : ∀ i, i < m → 0 < sl i → sf i = some (-1)
  b : ∀ i, i < m → sf i = some (-1) → 0 < sl i
  c : ∀ i, i < m → ∀ k, sf i = some k → k = -1 ∨ ∃ j : Nat, j < n ∧ k = (j : Int) ∧ 0 < f i j ∧ ∃ i' : Nat, tf j = some (i' : Int) ∧ ρ i' < ρ i
  d : ∀ j, j < n → ∀ k, tf j = some k → ∃ i : Nat, i < m ∧ k = (i : Int) ∧ sf i ≠ none ∧ U i j = true
structure RI (qs : List Nat) (sf tf : Nat → Option Int) (ρ : Nat → Nat) : Prop extends Found m n U f sl sf tf ρ where
  nd : qs.Nodup
  mem : ∀ i, i ∈ qs ↔ i < m ∧ sf i ≠ none
/-- all that is reached is reached: but for the target t's sources from o on -/
def Xp (sf tf : Nat → Option Int) (t o : Nat) : Prop := ∀ j, j < n → tf j ≠ none → ∀ i, i < m → 0 < f i j → (j = t ∧ o ≤ i) ∨ sf i ≠ none
def Sat (tf : Nat → Option Int) : Prop := ∀ j, j < n → tf j ≠ none → tl j ≤ 0
structure Closed (sf tf : Nat → Option Int) : Prop where
  e : Sat n tl tf
  x : ∀ j, j < n → tf j ≠ none → ∀ i, i < m → 0 < f i j → sf i ≠ none
  y : ∀ i, i < m → sf i ≠ none → ∀ j, j < n → U i j = true → tf j ≠ none
variable {m n U f sl tl}
theorem RI.len {qs : List Nat} {sf tf : Nat → Option Int} {ρ : Nat → Nat} (h : RI m n U f sl qs sf tf ρ) : qs.length ≤ m := nodup_len m qs h.nd fun i hi => ((h.mem i).mp hi).1
/-- a target is reached -/
theorem RI.setT {qs : List Nat} {sf tf : Nat → Option Int} {ρ : Nat → Nat} (h : RI m n U f sl qs sf tf ρ) {s t : Nat} (ht : tf t = none) (hs : s ∈ qs) (hU : U s t = true) : RI m n U f sl qs sf (oset tf t (some (s : Int))) ρ := by
  refine ⟨⟨h.a, h.b, fun i hi k e => ?_, fun j hj k e => ?_⟩, h.nd, h.mem⟩
  · rcases h.c i hi k e with z | ⟨j, h1, h2, h3, i', h4, h5⟩
    · exact .inl z
    · refine .inr ⟨j, h1, h2, h3, i', ?_, h5⟩
      have : j ≠ t := fun z => by rw [z, ht] at h4; cases h4
      rw [oset_ne _ _ this]
      exact h4
  · by_cases z : j = t
    · subst z
      rw [oset_same] at e
      cases e
      obtain ⟨q1, q2⟩ := (h.mem s).mp hs
      exact ⟨s, q1, rfl, q2, hU⟩
    · rw [oset_ne _ _ z] at e
      exact h.d j hj k e
/-- a source is reached -/
theorem RI.setS {qs : List Nat} {sf tf : Nat → Option Int} {ρ : Nat → Nat} (h : RI m n U f sl qs sf tf ρ) {s t o : Nat} (htn : t < n) (ho : o < m) (hso : sf o = none) (hf : 0 < f o t) (ht : tf t = some (s : Int)) :
    RI m n U f sl (qs ++ [o]) (oset sf o (some (t : Int))) tf (fun i => if i = o then ρ s + 1 else ρ i) := by
  have old : ∀ i, sf i ≠ none → i ≠ o := fun i hi z => hi (by rw [z]; exact hso)
  have hss : sf s ≠ none := by
    obtain ⟨i, _, e, q, _⟩ := h.d t htn _ ht
    have : s = i := by omega
    rw [this]; exact q
  refine ⟨⟨fun i hi q => ?_, fun i hi e => ?_, fun i hi k e => ?_, fun j hj k e => ?_⟩, ?_, fun i => ?_⟩
  · have e := h.a i hi q
    rw [oset_ne _ _ (old i (by rw [e]; simp))]
    exact e
  · by_cases z : i = o
    · rw [z, oset_same] at e
      have := Option.some.inj e
      omega
    · rw [oset_ne _ _ z] at e
      exact h.b i hi e
  · by_cases z : i = o
    · subst z
      rw [oset_same] at e
      cases e
      refine .inr ⟨t, htn, rfl, hf, s, ht, ?_⟩
      rw [if_neg (old s hss), if_pos rfl]
      omega
    · rw [oset_ne _ _ z] at e
      rcases h.c i hi k e with z' | ⟨j, h1, h2, h3, i', h4, h5⟩
      · exact .inl z'
      · refine .inr ⟨j, h1, h2, h3, i', h4, ?_⟩
        obtain ⟨i2, _, e2, q2, _⟩ := h.d j h1 _ h4
        have : i' = i2 := by omega
        rw [if_neg z, if_neg (old i' (by rw [this]; exact q2))]
        exact h5
  · obtain ⟨i, h1, h2, h3, h4⟩ := h.d j hj k e
    exact ⟨i, h1, h2, by rw [oset_ne _ _ (old i h3)]; exact h3, h4⟩
  · refine List.nodup_append.mpr ⟨h.nd, by simp, fun a ha b hb => ?_⟩
    rw [List.mem_singleton] at hb
    rw [hb]
    exact old a ((h.mem a).mp ha).2
  · rw [List.mem_append, List.mem_singleton]
    constructor
    · rintro (z | z)
      · obtain ⟨q1, q2⟩ := (h.mem i).mp z
        exact ⟨q1, by rw [oset_ne _ _ (old i q2)]; exact q2⟩
      · rw [z, oset_same]; exact ⟨ho, by simp⟩
    · rintro ⟨q1, q2⟩
      by_cases z : i = o
      · exact .inr z
      · rw [oset_ne _ _ z] at q2
        exact .inl ((h.mem i).mpr ⟨q1, q2⟩)
/-- the start: the sources that have something left, below k -/
def sf0 (sl : Nat → Int) (k : Nat) : Nat → Option Int := fun i => if i < k ∧ 0 < sl i then some (-1) else none
def qs0 (sl : Nat → Int) (k : Nat) : List Nat := (List.range k).filter fun i => decide (0 < sl i)
theorem qs0_succ (sl : Nat → Int) (k : Nat) : qs0 sl (k + 1) = qs0 sl k ++ if 0 < sl k then [k] else [] := by
  unfold qs0
  rw [List.range_succ, List.filter_append]
  congr 1
  by_cases h : 0 < sl k
  · rw [if_pos h, List.filter_cons_of_pos (by simpa using h)]; rfl
  · rw [if_neg h, List.filter_cons_of_neg (by simpa using h)]; rfl
theorem sf0_succ (sl : Nat → Int) (k : Nat) : sf0 sl (k + 1) = if 0 < sl k then oset (sf0 sl k) k (some (-1)) else sf0 sl k := by
  funext i
  by_cases h : 0 < sl k
  · rw [if_pos h]
    unfold oset sf0
    by_cases e : i = k
    · subst e
      rw [if_pos rfl, if_pos ⟨Nat.lt_succ_self _, h⟩]
    · rw [if_neg e]
      by_cases q : i < k ∧ 0 < sl i
      · rw [if_pos q, if_pos ⟨by omega, q.2⟩]
      · rw [if_neg q, if_neg fun z => q ⟨by omega, z.2⟩]
  · rw [if_neg h]
    unfold sf0
    by_cases q : i < k ∧ 0 < sl i
    · rw [if_pos q, if_pos ⟨by omega, q.2⟩]
    · rw [if_neg q, if_neg fun z => q ⟨by
        have : i ≠ k := fun e => h (e ▸ z.2)
        omega, z.2⟩]
theorem RI.start : RI m n U f sl (qs0 sl m) (sf0 sl m) (fun _ => none) (fun _ => 0) := by
  refine ⟨⟨fun i hi q => if_pos ⟨hi, q⟩, fun i hi e => ?_, fun i hi k e => ?_, fun j hj k e => nomatch e⟩, List.Pairwise.filter _ List.nodup_range, fun i => ?_⟩
  · unfold sf0 at e
    split at e
    · rename_i h; exact h.2
    · cases e
  · unfold sf0 at e
    split at e
    · exact .inl (Option.some.inj e).symm
    · cases e
  · unfold qs0 sf0
    rw [List.mem_filter, List.mem_range, decide_eq_true_eq]
    constructor
    · rintro ⟨h1, h2⟩
      exact ⟨h1, by rw [if_pos ⟨h1, h2⟩]; simp⟩
    · rintro ⟨h1, h2⟩
      refine ⟨h1, ?_⟩
      refine Classical.byContradiction fun z => h2 (if_neg fun q => z q.2)
/-! the path back -/
def cr (ps : List Pq) (k : Nat) : Int := match ps with
  | [] => 0
  | q :: r => cr r k + if q.1 = k then 1 else 0
def cc (ps : List Pq) (l : Nat) : Int := match ps with
  | [] => 0
  | q :: r => cc r l + if q.2 = l then 1 else 0
theorem cr_app (a b : List Pq) (k : Nat) : cr (a ++ b) k = cr a k + cr b k := by
  induction a with
  | nil => show cr b k = 0 + cr b k; omega
  | cons q r ih => show cr (r ++ b) k + _ = cr r k + _ + cr b k; rw [ih]; omega
theorem cc_app (a b : List Pq) (k : Nat) : cc (a ++ b) k = cc a k + cc b k := by
  induction a with
  | nil => show cc b k = 0 + cc b k; omega
  | cons q r ih => show cc (r ++ b) k + _ = cc r k + _ + cc b k; rw [ih]; omega
theorem cr_one (q : Pq) (k : Nat) : cr [q] k = if q.1 = k then 1 else 0 := by show 0 + _ = _; omega
theorem cc_one (q : Pq) (k : Nat) : cc [q] k = if q.2 = k then 1 else 0 := by show 0 + _ = _; omega
theorem cr_map {a b : List Pq} (h : a.map Prod.fst = b.map Prod.fst) (k : Nat) : cr a k = cr b k := by
  induction a generalizing b with
  | nil =>
    cases b with
    | nil => rfl
    | cons _ _ => cases h
  | cons q r ih =>
    cases b with
    | nil => cases h
    | cons q2 r2 =>
      injection h with h1 h2
      show cr r k + (if q.1 = k then 1 else 0) = cr r2 k + (if q2.1 = k then 1 else 0)
      rw [ih h2, h1]
/-- on the way back at target t -/
structure Back (m n : Nat) (U : Nat → Nat → Bool) (f : Nat → Nat → Int) (sf tf : Nat → Option Int) (ρ : Nat → Nat) (goal : Nat) (G L : List Pq) (t : Nat) : Prop where
  tn : t < n
  tr : tf t ≠ none
  fst : G.map Prod.fst = L.map Prod.fst
  nd : (L.map Prod.fst).Nodup
  rk : ∀ s : Nat, tf t = some (s : Int) → ∀ q ∈ L, ρ s < ρ q.1
  cc : ∀ l, cc G l + (if t = l then 1 else 0) = cc L l + if goal = l then 1 else 0
  g : ∀ q ∈ G, q.1 < m ∧ q.2 < n ∧ U q.1 q.2 = true
  l : ∀ q ∈ L, q.1 < m ∧ q.2 < n ∧ 0 < f q.1 q.2
  hd : G = [] ∧ t = goal ∨ ∃ q, G.head? = some q ∧ q.2 = goal
/-- the whole way back -/
structure Path (m n : Nat) (U : Nat → Nat → Bool) (f : Nat → Nat → Int) (sl : Nat → Int) (goal start : Nat) (G L : List Pq) : Prop where
  sm : start < m
  gn : goal < n
  sp : 0 < sl start
  nd : L.Nodup
  cr : ∀ k, cr G k = cr L k + if start = k then 1 else 0
  cc : ∀ l, cc G l = cc L l + if goal = l then 1 else 0
  g : ∀ q ∈ G, q.1 < m ∧ q.2 < n ∧ U q.1 q.2 = true
  l : ∀ q ∈ L, q.1 < m ∧ q.2 < n ∧ 0 < f q.1 q.2
  hd : ∃ q, G.head? = some q ∧ q.2 = goal
  ls : ∃ q, G.getLast? = some q ∧ q.1 = start
theorem Back.zero {sf tf : Nat → Option Int} {ρ : Nat → Nat} {goal : Nat} (h1 : goal < n) (h2 : tf goal ≠ none) : Back m n U f sf tf ρ goal [] [] goal :=
  ⟨h1, h2, rfl, by simp, fun _ _ _ z => (by cases z), fun l => rfl, fun _ z => (by cases z), fun _ z => (by cases z), .inl ⟨rfl, rfl⟩⟩
theorem Back.src {sf tf : Nat → Option Int} {ρ : Nat → Nat} {goal t : Nat} {G L : List Pq} (F : Found m n U f sl sf tf ρ) (h : Back m n U f sf tf ρ goal G L t) : ∃ s : Nat, s < m ∧ tf t = some (s : Int) ∧ U s t = true ∧ ((sf s = some (-1)) ∨ ∃ t' : Nat, sf s = some (t' : Int)) := by
  cases e : tf t with
  | none => exact absurd e h.tr
  | some k =>
    obtain ⟨s, h1, rfl, h3, h4⟩ := F.d t h.tn k e
    refine ⟨s, h1, rfl, h4, ?_⟩
    cases e2 : sf s with
    | none => exact absurd e2 h3
    | some z =>
      rcases F.c s h1 z e2 with q | ⟨j, _, q, _⟩
      · exact .inl (by rw [q])
      · exact .inr ⟨j, by rw [q]⟩
theorem Back.step {sf tf : Nat → Option Int} {ρ : Nat → Nat} {goal t s t' : Nat} {G L : List Pq} (F : Found m n U f sl sf tf ρ) (h : Back m n U f sf tf ρ goal G L t) (hs : s < m) (ht : tf t = some (s : Int)) (hU : U s t = true) (hs' : sf s = some (t' : Int)) :
    Back m n U f sf tf ρ goal (G ++ [(s, t)]) (L ++ [(s, t')]) t' := by
  rcases F.c s hs _ hs' with z | ⟨j, hj, e, hf, i', h4, h5⟩
  · omega
  have : t' = j := by omega
  subst this
  have hlt := h.rk s ht
  refine ⟨hj, by rw [h4]; simp, by rw [List.map_append, List.map_append, h.fst]; rfl, ?_, fun s2 e2 q hq => ?_, fun l => ?_, fun q hq => ?_, fun q hq => ?_, .inr ?_⟩
  · rw [List.map_append]
    refine List.nodup_append.mpr ⟨h.nd, by simp, fun a ha b hb => ?_⟩
    obtain ⟨q, hq, ea⟩ := List.mem_map.mp ha
    rw [List.map_singleton, List.mem_singleton] at hb
    have := hlt q hq
    rw [← ea, hb]
    intro z
    rw [z] at this
    exact absurd this (Nat.lt_irrefl _)
  · rw [h4] at e2
    have : i' = s2 := by have := Option.some.inj e2; omega
    subst this
    rcases List.mem_append.mp hq with hq | hq
    · exact Nat.lt_trans h5 (hlt q hq)
    · rw [List.mem_singleton] at hq; rw [hq]; exact h5
  · have := h.cc l
    rw [cc_app, cc_app, cc_one, cc_one]
    show K78.cc G l + (if t = l then 1 else 0) + (if t' = l then 1 else 0) = K78.cc L l + (if t' = l then 1 else 0) + (if goal = l then 1 else 0)
    omega
  · rcases List.mem_append.mp hq with hq | hq
    · exact h.g q hq
    · rw [List.mem_singleton] at hq; rw [hq]; exact ⟨hs, h.tn, hU⟩
  · rcases List.mem_append.mp hq with hq | hq
    · exact h.l q hq
    · rw [List.mem_singleton] at hq; rw [hq]; exact ⟨hs, hj, hf⟩
  · rcases h.hd with ⟨e1, e2⟩ | ⟨q, e1, e2⟩
    · rw [e1]; exact ⟨(s, t), rfl, e2⟩
    · refine ⟨q, ?_, e2⟩
      cases G with
      | nil => cases e1
      | cons a r => exact e1
theorem Back.done {sf tf : Nat → Option Int} {ρ : Nat → Nat} {goal t s : Nat} {G L : List Pq} (F : Found m n U f sl sf tf ρ) (h : Back m n U f sf tf ρ goal G L t) (hg : goal < n) (hs : s < m) (ht : tf t = some (s : Int)) (hU : U s t = true) (hs' : sf s = some (-1)) :
    Path m n U f sl goal s (G ++ [(s, t)]) L := by
  refine ⟨hs, hg, F.b s hs hs', ?_, fun k => ?_, fun l => ?_, fun q hq => ?_, h.l, ?_, ⟨(s, t), by simp, rfl⟩⟩
  · exact List.Pairwise.of_map Prod.fst (fun a b h e => h (by rw [e])) h.nd
  · rw [cr_app, cr_one, cr_map h.fst]
  · have := h.cc l
    rw [cc_app, cc_one]
    exact this
  · rcases List.mem_append.mp hq with hq | hq
    · exact h.g q hq
    · rw [List.mem_singleton] at hq; rw [hq]; exact ⟨hs, h.tn, hU⟩
  · rcases h.hd with ⟨e1, e2⟩ | ⟨q, e1, e2⟩
    · rw [e1]; exact ⟨(s, t), rfl, e2⟩
    · refine ⟨q, ?_, e2⟩
      cases G with
      | nil => cases e1
      | cons a r => exact e1
theorem Back.len {sf tf : Nat → Option Int} {ρ : Nat → Nat} {goal t : Nat} {G L : List Pq} (h : Back m n U f sf tf ρ goal G L t) : G.length = L.length ∧ L.length ≤ m := by
  have h1 := congrArg List.length h.fst
  rw [List.length_map, List.length_map] at h1
  refine ⟨h1, ?_⟩
  have := nodup_len m _ h.nd fun i hi => by
    obtain ⟨q, hq, e⟩ := List.mem_map.mp hi
    rw [← e]; exact (h.l q hq).1
  rw [List.length_map] at this
  exact this
end
end K78
end
section
set_option Elab.async false
set_option linter.all false
namespace K78
/-! what an augmenting does -/
def bumps (f : Nat → Nat → Int) (a : Int) : List Pq → Nat → Nat → Int
  | [] => f
  | q :: r => bumps (bump f q.1 q.2 a) a r
theorem bumps_snoc (f : Nat → Nat → Int) (a : Int) (ps : List Pq) (q : Pq) : bumps f a (ps ++ [q]) = bump (bumps f a ps) q.1 q.2 a := by
  induction ps generalizing f with
  | nil => rfl
  | cons p r ih => exact ih _
def cn : List Pq → Nat → Nat → Int
  | [], _, _ => 0
  | q :: r, i, j => cn r i j + if i = q.1 ∧ j = q.2 then 1 else 0
theorem cn_nn (ps : List Pq) (i j : Nat) : 0 ≤ cn ps i j := by
  induction ps with
  | nil => exact Int.le_refl _
  | cons q r ih => show 0 ≤ cn r i j + _; split <;> omega
theorem cn_zero {ps : List Pq} {i j : Nat} (h : (i, j) ∉ ps) : cn ps i j = 0 := by
  induction ps with
  | nil => rfl
  | cons q r ih =>
    show cn r i j + _ = 0
    rw [ih fun z => h (List.mem_cons_of_mem _ z), if_neg fun z => h (by
      rw [show (i, j) = q from Prod.ext z.1 z.2]; exact List.mem_cons_self)]
    rfl
theorem cn_le {ps : List Pq} (hn : ps.Nodup) (i j : Nat) : cn ps i j ≤ 1 := by
  induction ps with
  | nil => exact Int.le_of_lt Int.one_pos
  | cons q r ih =>
    obtain ⟨h1, h2⟩ := List.nodup_cons.mp hn
    show cn r i j + _ ≤ 1
    by_cases e : i = q.1 ∧ j = q.2
    · rw [if_pos e, cn_zero (by rw [show (i, j) = q from Prod.ext e.1 e.2]; exact h1)]; omega
    · rw [if_neg e]; have := ih h2; omega
theorem bumps_at (f : Nat → Nat → Int) (a : Int) (ps : List Pq) (i j : Nat) : bumps f a ps i j = f i j + a * cn ps i j := by
  induction ps generalizing f with
  | nil => show f i j = f i j + a * 0; omega
  | cons q r ih =>
    show bumps (bump f q.1 q.2 a) a r i j = f i j + a * (cn r i j + _)
    rw [ih, Int.mul_add]
    unfold bump
    by_cases e : i = q.1 ∧ j = q.2
    · rw [if_pos e, if_pos e]; omega
    · rw [if_neg e, if_neg e]; omega
theorem row_bumps {n : Nat} (a : Int) (ps : List Pq) (h : ∀ q ∈ ps, q.2 < n) (f : Nat → Nat → Int) (k : Nat) : row n (bumps f a ps) k = row n f k + a * cr ps k := by
  induction ps generalizing f with
  | nil => show row n f k = row n f k + a * 0; omega
  | cons q r ih =>
    show row n (bumps (bump f q.1 q.2 a) a r) k = row n f k + a * (cr r k + _)
    rw [ih (fun p hp => h p (List.mem_cons_of_mem _ hp)), row_bump _ _ _ _ (h q List.mem_cons_self), Int.mul_add]
    by_cases e : k = q.1
    · rw [if_pos e, if_pos e.symm]; omega
    · rw [if_neg e, if_neg fun z => e z.symm]; omega
theorem col_bumps {m : Nat} (a : Int) (ps : List Pq) (h : ∀ q ∈ ps, q.1 < m) (f : Nat → Nat → Int) (l : Nat) : col m (bumps f a ps) l = col m f l + a * cc ps l := by
  induction ps generalizing f with
  | nil => show col m f l = col m f l + a * 0; omega
  | cons q r ih =>
    show col m (bumps (bump f q.1 q.2 a) a r) l = col m f l + a * (cc r l + _)
    rw [ih (fun p hp => h p (List.mem_cons_of_mem _ hp)), col_bump _ _ _ _ (h q List.mem_cons_self), Int.mul_add]
    by_cases e : l = q.2
    · rw [if_pos e, if_pos e.symm]; omega
    · rw [if_neg e, if_neg fun z => e z.symm]; omega
/-- a flow on its way -/
structure FI (m n : Nat) (s t : Nat → Int) (f : Nat → Nat → Int) (sl tl : Nat → Int) : Prop where
  nn : ∀ i j, 0 ≤ f i j
  r : ∀ i, i < m → row n f i + sl i = s i
  c : ∀ j, j < n → col m f j + tl j = t j
  sn : ∀ i, i < m → 0 ≤ sl i
  tn : ∀ j, j < n → 0 ≤ tl j
theorem row_zero (n i : Nat) : row n (fun _ _ => 0) i = 0 := S_zero n
theorem col_zero (m j : Nat) : col m (fun _ _ => 0) j = 0 := S_zero m
theorem FI.zero {m n : Nat} {s t : Nat → Int} (hs : ∀ i, i < m → 0 ≤ s i) (ht : ∀ j, j < n → 0 ≤ t j) : FI m n s t (fun _ _ => 0) s t :=
  ⟨fun _ _ => Int.le_refl _, fun i _ => by rw [row_zero]; omega, fun j _ => by rw [col_zero]; omega, hs, ht⟩
def augd (f : Nat → Nat → Int) (G L : List Pq) (a : Int) : Nat → Nat → Int := bumps (bumps f a G) (-a) L
section
variable {m n : Nat} {U : Nat → Nat → Bool} {f : Nat → Nat → Int} {sl tl s t : Nat → Int} {goal start : Nat} {G L : List Pq} {a : Int}
theorem FI.aug (F : FI m n s t f sl tl) (p : Path m n U f sl goal start G L) (ha : 0 ≤ a) (h1 : a ≤ sl start) (h2 : a ≤ tl goal) (h3 : ∀ q ∈ L, a ≤ f q.1 q.2) :
    FI m n s t (augd f G L a) (fset sl start (sl start - a)) (fset tl goal (tl goal - a)) := by
  refine ⟨fun i j => ?_, fun i hi => ?_, fun j hj => ?_, fun i hi => ?_, fun j hj => ?_⟩
  · unfold augd
    rw [bumps_at, bumps_at]
    have g1 := Int.mul_nonneg ha (cn_nn G i j)
    have f1 := F.nn i j
    by_cases e : (i, j) ∈ L
    · have := h3 _ e
      have c1 : cn L i j ≤ 1 := cn_le p.nd i j
      have c2 := cn_nn L i j
      have : cn L i j = 0 ∨ cn L i j = 1 := by omega
      rcases this with z | z <;> rw [z] <;> simp at * <;> omega
    · rw [cn_zero e]; simp; omega
  · unfold augd
    rw [row_bumps _ _ (fun q hq => (p.l q hq).2.1), row_bumps _ _ (fun q hq => (p.g q hq).2.1), p.cr]
    have := F.r i hi
    unfold fset
    by_cases e : i = start
    · rw [if_pos e.symm, if_pos e, ← e]; rw [Int.mul_add, Int.neg_mul]; omega
    · rw [if_neg (fun z => e z.symm), if_neg e]; rw [Int.mul_add, Int.neg_mul]; omega
  · unfold augd
    rw [col_bumps _ _ (fun q hq => (p.l q hq).1), col_bumps _ _ (fun q hq => (p.g q hq).1), p.cc]
    have := F.c j hj
    unfold fset
    by_cases e : j = goal
    · rw [if_pos e.symm, if_pos e, ← e]; rw [Int.mul_add, Int.neg_mul]; omega
    · rw [if_neg (fun z => e z.symm), if_neg e]; rw [Int.mul_add, Int.neg_mul]; omega
  · unfold fset
    split
    · omega
    · exact F.sn i hi
  · unfold fset
    split
    · omega
    · exact F.tn j hj
theorem augd_pos (ha : 0 ≤ a) {i j : Nat} (h : 0 < augd f G L a i j) : 0 < f i j ∨ (i, j) ∈ G := by
  unfold augd at h
  rw [bumps_at, bumps_at] at h
  by_cases e : (i, j) ∈ G
  · exact .inr e
  · rw [cn_zero e] at h
    have := Int.mul_nonneg ha (cn_nn L i j)
    rw [Int.neg_mul] at h
    left
    omega
/-- the sum of what is left falls -/
theorem S_fset {m : Nat} (sl : Nat → Int) {k : Nat} (hk : k < m) (v : Int) : S m (fset sl k v) = S m sl + (v - sl k) := by
  rw [← S_bump m sl k (v - sl k) hk]
  refine S_congr fun i _ => ?_
  unfold fset
  by_cases e : i = k
  · rw [if_pos e, if_pos e, e]; omega
  · rw [if_neg e, if_neg e]
/-! cuts -/
def gd (b : Bool) (v : Int) : Int := if b then v else 0
theorem gd_le {b : Bool} {v : Int} (h : 0 ≤ v) : gd b v ≤ v := by unfold gd; split <;> omega
theorem S_pos {m : Nat} {g : Nat → Int} (h : ∀ i, i < m → 0 ≤ g i) (hz : S m g ≤ 0) : ∀ i, i < m → g i = 0 := fun i hi => by
  have := S_ge_one h hi
  have := h i hi
  omega
theorem gd_row (b : Bool) (n : Nat) (x : Nat → Int) : gd b (S n x) = S n fun j => gd b (x j) := by
  cases b with
  | true => rfl
  | false => exact (S_zero n).symm
/-- what flows out of the reached sources goes into the reached targets -/
theorem cut_out {P T : Nat → Bool} {x : Nat → Nat → Int} (hn : ∀ i j, 0 ≤ x i j) (h : ∀ i, i < m → P i = true → ∀ j, j < n → 0 < x i j → T j = true) :
    S m (fun i => gd (P i) (row n x i)) = S m fun i => S n fun j => gd (P i && T j) (x i j) := by
  refine S_congr fun i hi => ?_
  rw [row, gd_row]
  refine S_congr fun j hj => ?_
  unfold gd
  cases e : P i with
  | false => rfl
  | true =>
    cases e2 : T j with
    | true => rfl
    | false =>
      have : ¬ 0 < x i j := fun z => by rw [h i hi e j hj z] at e2; cases e2
      have := hn i j
      show x i j = 0
      omega
theorem cut_in {P T : Nat → Bool} {x : Nat → Nat → Int} (hn : ∀ i j, 0 ≤ x i j) (h : ∀ j, j < n → T j = true → ∀ i, i < m → 0 < x i j → P i = true) :
    S n (fun j => gd (T j) (col m x j)) = S m fun i => S n fun j => gd (P i && T j) (x i j) := by
  rw [S_swap]
  refine S_congr fun j hj => ?_
  rw [col, gd_row]
  refine S_congr fun i hi => ?_
  unfold gd
  cases e2 : T j with
  | false => rw [Bool.and_false]
  | true =>
    cases e : P i with
    | true => rfl
    | false =>
      have : ¬ 0 < x i j := fun z => by rw [h j hj e2 i hi z] at e; cases e
      have := hn i j
      show x i j = 0
      omega
theorem cut_in_le {P T : Nat → Bool} {x : Nat → Nat → Int} (hn : ∀ i j, 0 ≤ x i j) : (S m fun i => S n fun j => gd (P i && T j) (x i j)) ≤ S n (fun j => gd (T j) (col m x j)) := by
  rw [S_swap]
  refine S_le fun j hj => ?_
  rw [col, gd_row]
  refine S_le fun i hi => ?_
  have := hn i j
  unfold gd
  cases T j <;> cases P i <;> simp <;> omega
theorem cut_out_le {P T : Nat → Bool} {x : Nat → Nat → Int} (hn : ∀ i j, 0 ≤ x i j) : (S m fun i => S n fun j => gd (P i && T j) (x i j)) ≤ S m (fun i => gd (P i) (row n x i)) := by
  refine S_le fun i hi => ?_
  rw [row, gd_row]
  refine S_le fun j hj => ?_
  have := hn i j
  unfold gd
  cases T j <;> cases P i <;> simp <;> omega
/-- THE CUT: no way further, yet a full serving: nothing is left -/
theorem cut_full {P T : Nat → Bool} {x : Nat → Nat → Int} (F : FI m n s t f sl tl) (hx : ∀ i j, 0 ≤ x i j) (hr : ∀ i, i < m → row n x i = s i) (hc : ∀ j, j < n → col m x j ≤ t j)
    (ho : ∀ i, i < m → P i = true → ∀ j, j < n → 0 < x i j → T j = true) (hi : ∀ j, j < n → T j = true → ∀ i, i < m → 0 < f i j → P i = true) (hT : ∀ j, j < n → T j = true → tl j ≤ 0) (hP : ∀ i, i < m → 0 < sl i → P i = true) : ∀ i, i < m → sl i = 0 := by
  have h1 : S m (fun i => gd (P i) (s i)) = S m fun i => S n fun j => gd (P i && T j) (x i j) := by
    rw [← cut_out hx ho]
    exact S_congr fun i hi => by rw [hr i hi]
  have h2 := cut_in_le (m := m) (n := n) (P := P) (T := T) hx
  have h3 : S n (fun j => gd (T j) (col m x j)) ≤ S n (fun j => gd (T j) (col m f j)) := S_le fun j hj => by
    have a1 := hc j hj
    have a2 := F.c j hj
    unfold gd
    cases e : T j with
    | false => exact Int.le_refl _
    | true =>
      have := hT j hj e
      show col m x j ≤ col m f j
      omega
  have h4 := cut_in (m := m) (n := n) F.nn hi
  have h5 := cut_out_le (m := m) (n := n) (P := P) (T := T) F.nn
  have h6 : S m (fun i => gd (P i) (row n f i)) = S m (fun i => gd (P i) (s i)) - S m (fun i => gd (P i) (sl i)) := by
    rw [← S_sub]
    refine S_congr fun i hi => ?_
    have := F.r i hi
    unfold gd
    cases P i <;> simp <;> omega
  have h7 := S_pos (m := m) (g := fun i => gd (P i) (sl i)) (fun i hi => by
    have := F.sn i hi
    unfold gd
    split <;> omega) (by omega)
  intro i hi
  have := F.sn i hi
  by_cases e : 0 < sl i
  · have h8 := h7 i hi
    unfold gd at h8
    rw [if_pos (hP i hi e)] at h8
    exact h8
  · omega
/-! prices -/
abbrev pc (c : Nat → Nat → Option Int) (i j : Nat) : Int := (c i j).getD 0
/-- a full serving, line by line -/
structure Full (m n : Nat) (c : Nat → Nat → Option Int) (s t : Nat → Int) (x : Nat → Nat → Int) : Prop where
  nn : ∀ i j, 0 ≤ x i j
  sup : ∀ i, i < m → ∀ j, j < n → 0 < x i j → (c i j).isSome = true
  r : ∀ i, i < m → row n x i = s i
  c : ∀ j, j < n → col m x j = t j
def dual (m n : Nat) (s t u v : Nat → Int) : Int := S m (fun i => u i * s i) + S n fun j => v j * t j
theorem dot_uv (m n : Nat) (u v : Nat → Int) (x : Nat → Nat → Int) : dot m n (fun i j => u i + v j) x = S m (fun i => u i * row n x i) + S n fun j => v j * col m x j := by
  unfold dot row col
  have e1 : (fun i => S n fun j => (u i + v j) * x i j) = fun i => u i * S n (x i) + S n fun j => v j * x i j := by
    funext i
    rw [← S_mul, ← S_add]
    exact S_congr fun j _ => Int.add_mul _ _ _
  rw [e1, S_add]
  congr 1
  rw [S_swap]
  refine S_congr fun j _ => ?_
  rw [← S_mul]
theorem dual_full {c : Nat → Nat → Option Int} {u v : Nat → Int} {x : Nat → Nat → Int} (hx : Full m n c s t x) : dot m n (fun i j => u i + v j) x = dual m n s t u v := by
  rw [dot_uv]
  unfold dual
  congr 1
  · exact S_congr fun i hi => by rw [hx.r i hi]
  · exact S_congr fun j hj => by rw [hx.c j hj]
structure Dl (m n : Nat) (c : Nat → Nat → Option Int) (f : Nat → Nat → Int) (u v : Nat → Int) : Prop where
  fe : ∀ i, i < m → ∀ j, j < n → ∀ p, c i j = some p → u i + v j ≤ p
  ti : ∀ i, i < m → ∀ j, j < n → 0 < f i j → c i j = some (u i + v j)
/-- weak duality -/
theorem Dl.weak {c : Nat → Nat → Option Int} {u v : Nat → Int} {x : Nat → Nat → Int} (d : Dl m n c f u v) (hx : Full m n c s t x) : dual m n s t u v ≤ dot m n (pc c) x := by
  rw [← dual_full hx]
  unfold dot
  refine S_le fun i hi => S_le fun j hj => ?_
  have h0 := hx.nn i j
  by_cases e : 0 < x i j
  · have h1 := hx.sup i hi j hj e
    cases e2 : c i j with
    | none => rw [e2] at h1; cases h1
    | some p =>
      have := d.fe i hi j hj p e2
      have e3 : pc c i j = p := by unfold pc; rw [e2]; rfl
      rw [e3]
      exact Int.mul_le_mul_of_nonneg_right this h0
  · have : x i j = 0 := by omega
    rw [this, Int.mul_zero, Int.mul_zero]
    exact Int.le_refl _
/-- all served, all tight: the cheapest -/
theorem Dl.best {c : Nat → Nat → Option Int} {u v : Nat → Int} (d : Dl m n c f u v) (F : FI m n s t f sl tl) (hb : S m s = S n t) (hz : S m sl ≤ 0) : Full m n c s t f ∧ ∀ y, Full m n c s t y → dot m n (pc c) f ≤ dot m n (pc c) y := by
  have h1 := S_pos F.sn hz
  have hr : ∀ i, i < m → row n f i = s i := fun i hi => by have := F.r i hi; have := h1 i hi; omega
  have e1 : S m (fun i => row n f i) = S m s := S_congr hr
  have e2 : S n (fun j => col m f j) = S m (fun i => row n f i) := by unfold row col; exact (S_swap m n f).symm
  have e3 : S n (fun j => col m f j + tl j) = S n t := S_congr F.c
  rw [S_add] at e3
  have e4 : S n (fun j => col m f j) + S n tl = S n t := e3
  have e5 : S m (fun i => row n f i) = S m s := e1
  have h2 := S_pos F.tn (by rw [e2, e5] at e4; omega)
  have hF : Full m n c s t f := ⟨F.nn, fun i hi j hj h => by rw [d.ti i hi j hj h]; rfl, hr, fun j hj => by have := F.c j hj; have := h2 j hj; omega⟩
  refine ⟨hF, fun y hy => ?_⟩
  have h4 : dot m n (pc c) f = dual m n s t u v := by
    rw [← dual_full hF]
    unfold dot
    refine S_congr fun i hi => S_congr fun j hj => ?_
    by_cases e : 0 < f i j
    · unfold pc
      rw [d.ti i hi j hj e]; rfl
    · have := F.nn i j
      have : f i j = 0 := by omega
      rw [this, Int.mul_zero, Int.mul_zero]
  rw [h4]
  exact d.weak hy
/-- the worths move by g -/
def up (P : Nat → Bool) (g : Int) (u : Nat → Int) : Nat → Int := fun i => if P i then u i + g else u i
def dn (T : Nat → Bool) (g : Int) (v : Nat → Int) : Nat → Int := fun j => if T j then v j - g else v j
theorem Dl.move {c : Nat → Nat → Option Int} {u v : Nat → Int} {P T : Nat → Bool} {g : Int} (d : Dl m n c f u v) (F : FI m n s t f sl tl) (hg : 0 ≤ g) (hgap : ∀ i, i < m → P i = true → ∀ j, j < n → T j = false → ∀ p, c i j = some p → g ≤ p - u i - v j)
    (ho : ∀ i, i < m → P i = true → ∀ j, j < n → 0 < f i j → T j = true) (hi : ∀ j, j < n → T j = true → ∀ i, i < m → 0 < f i j → P i = true) (hT : ∀ j, j < n → T j = true → tl j ≤ 0) (hP : ∀ i, i < m → 0 < sl i → P i = true) :
    Dl m n c f (up P g u) (dn T g v) ∧ dual m n s t (up P g u) (dn T g v) = dual m n s t u v + g * S m sl := by
  refine ⟨⟨fun i hi' j hj p e => ?_, fun i hi' j hj e => ?_⟩, ?_⟩
  · have h1 := d.fe i hi' j hj p e
    unfold up dn
    cases e1 : P i with
    | false => cases e2 : T j <;> simp <;> omega
    | true =>
      cases e2 : T j with
      | true => simp; omega
      | false =>
        have := hgap i hi' e1 j hj e2 p e
        simp; omega
  · rw [d.ti i hi' j hj e]
    unfold up dn
    cases e1 : P i with
    | false =>
      cases e2 : T j with
      | false => rfl
      | true => rw [hi j hj e2 i hi' e] at e1; cases e1
    | true =>
      rw [ho i hi' e1 j hj e]
      simp
      omega
  · have k1 : S m (fun i => up P g u i * s i) = S m (fun i => u i * s i) + g * S m (fun i => gd (P i) (s i)) := by
      rw [← S_mul, ← S_add]
      refine S_congr fun i _ => ?_
      unfold up gd
      cases P i with
      | false => simp
      | true => simp; rw [Int.add_mul]
    have k2 : S n (fun j => dn T g v j * t j) = S n (fun j => v j * t j) - g * S n (fun j => gd (T j) (t j)) := by
      rw [← S_mul, ← S_sub]
      refine S_congr fun i _ => ?_
      unfold dn gd
      cases T i with
      | false => simp
      | true => simp; rw [Int.sub_mul]
    have k3 : S m (fun i => gd (P i) (s i)) = S m (fun i => gd (P i) (row n f i)) + S m sl := by
      rw [← S_add]
      refine S_congr fun i hi' => ?_
      have := F.r i hi'
      have := F.sn i hi'
      unfold gd
      cases e : P i with
      | true => simp; omega
      | false =>
        have : ¬ 0 < sl i := fun z => by rw [hP i hi' z] at e; cases e
        simp; omega
    have k4 : S n (fun j => gd (T j) (t j)) = S n (fun j => gd (T j) (col m f j)) := by
      refine S_congr fun j hj => ?_
      have := F.c j hj
      have := F.tn j hj
      unfold gd
      cases e : T j with
      | false => rfl
      | true =>
        have := hT j hj e
        simp; omega
    have k5 := cut_out (m := m) (n := n) F.nn ho
    have k6 := cut_in (m := m) (n := n) F.nn hi
    unfold dual
    rw [k1, k2, k3, k4, k5, k6, Int.mul_add]
    omega
end
end K78
end
section
set_option Elab.async false
set_option linter.all false
set_option maxRecDepth 100000
set_option maxHeartbeats 4000000

namespace K78
open PySem PySem.Spec PyProof.Rows L2 He
/-- the function data at an address -/
def fdOf (K : PySem.W.Frag) (a : Addr) : FuncData := match K.lookup a with
  | some ⟨_, _, .func fd, _⟩ => fd
  | _ => PySem.W.fnOf "" "" (defArgs s_law) [] (defScope s_law) .none .none .none .none none .none .none
theorem fdOf_eq {K : PySem.W.Frag} {x qual : Str} {params : Arguments} {body : List Stmt} {scope : Scope} {dvs : List V} {kws : List (Str × V)} {f : Addr} {fd : FuncData} (F : FunD K x qual params body scope dvs kws f fd) : fd = fdOf K f := by
  obtain ⟨oc, od, dV, kV, doc, pm, an, cdv, ct, osl, _, lk, _⟩ := F.ex
  unfold fdOf
  rw [lk]
/-- what the top has left -/
structure TX (K : PySem.W.Frag) (mg : Str → Option Value) : Prop where
  sd : He.SaysD fa fn K
  ex : exK K = true
  at_ : ∃ h : Heap, K.In h ∧ h.Ns mainGlobals mg
section
variable {K : PySem.W.Frag} {mg : Str → Option Value}
theorem TX.glo (E : TX K mg) {x : Str} (i : Nat) (h : fa[i]? = some (.glo x)) : mg x = some (.ref (ga K x)) := by
  obtain ⟨h0, X, G⟩ := E.at_
  exact glo_ok X G (E.sd.fact i h)
theorem TX.free (E : TX K mg) {x : Str} (i : Nat) (h : fa[i]? = some (.free x)) : mg x = none := by
  obtain ⟨h0, X, G⟩ := E.at_
  exact free_ok X G (E.sd.fact i h)
theorem TX.int (E : TX K mg) {x : Str} {n : Int} (i : Nat) (h : fa[i]? = some (.int x n)) : ∃ t, mg x = some (.int n t) := by
  obtain ⟨h0, X, G⟩ := E.at_
  exact int_ok X G (E.sd.fact i h)
theorem TX.def_ (E : TX K mg) (i : Nat) {d : DefD} (h : fn[i]? = some d) : FunD K d.name d.qual d.params d.body d.scope (d.dvs K) (d.kws K) (fAd K d.at_) (fdOf K (fAd K d.at_)) := by
  obtain ⟨fd, F⟩ := E.sd.def_ i h
  have e := fdOf_eq F
  rw [← e]
  exact F
theorem exK_ok (E : TX K mg) : tupB K "KINDS" [.str "even", .str "stock", .str "wish", .str "any"] = true ∧ PySem.W.fnIn K (ma K (ga K "Server") "__call__") = true ∧ PySem.W.noSeq K (ga K "Table") = true ∧ PySem.W.noSeq K (ga K "Serving") = true := by
  have h := E.ex
  unfold exK at h
  obtain ⟨h1, h⟩ := ba h
  obtain ⟨h2, h⟩ := ba h
  obtain ⟨h3, h4⟩ := ba h
  exact ⟨h1, h2, h3, h4⟩
abbrev N_is_integer : List Str := ["value"]
abbrev P_is_integer : List Str := ["value"]
theorem sc_is_integer : FnScope N_is_integer P_is_integer (defScope s_is_integer) := ⟨rfl, rfl, rfl, by decide +kernel, rfl, by decide +kernel, by decide +kernel⟩
abbrev a_is_integer (K : PySem.W.Frag) : Addr := ga K "is_integer"
theorem f_is_integer (E : TX K mg) : FunD K "is_integer" "is_integer" (defArgs s_is_integer) (defBody s_is_integer) (defScope s_is_integer) [] [] (a_is_integer K) (fdOf K (a_is_integer K)) := E.def_ 0 (d := d_is_integer) rfl
theorem b_is_integer (E : TX K mg) : Binds K (fdOf K (a_is_integer K)) P_is_integer [] := (f_is_integer E).bindsN fun _ _ _ _ _ _ us hl => match us, hl with | [_], _ => rfl
theorem g_is_integer (E : TX K mg) : mg "is_integer" = some (.ref (a_is_integer K)) := E.glo 0 rfl
theorem k_is_integer (E : TX K mg) : PySem.W.keepIn K (.ref (a_is_integer K)) = true := (f_is_integer E).kp
abbrev N_is_between : List Str := ["value", "low", "high"]
abbrev P_is_between : List Str := ["value", "low", "high"]
theorem sc_is_between : FnScope N_is_between P_is_between (defScope s_is_between) := ⟨rfl, rfl, rfl, by decide +kernel, rfl, by decide +kernel, by decide +kernel⟩
abbrev a_is_between (K : PySem.W.Frag) : Addr := ga K "is_between"
theorem f_is_between (E : TX K mg) : FunD K "is_between" "is_between" (defArgs s_is_between) (defBody s_is_between) (defScope s_is_between) [] [] (a_is_between K) (fdOf K (a_is_between K)) := E.def_ 1 (d := d_is_between) rfl
theorem b_is_between (E : TX K mg) : Binds K (fdOf K (a_is_between K)) P_is_between [] := (f_is_between E).bindsN fun _ _ _ _ _ _ us hl => match us, hl with | [_, _, _], _ => rfl
theorem g_is_between (E : TX K mg) : mg "is_between" = some (.ref (a_is_between K)) := E.glo 1 rfl
theorem k_is_between (E : TX K mg) : PySem.W.keepIn K (.ref (a_is_between K)) = true := (f_is_between E).kp
abbrev N_is_spot : List Str := ["value"]
abbrev P_is_spot : List Str := ["value"]
theorem sc_is_spot : FnScope N_is_spot P_is_spot (defScope s_is_spot) := ⟨rfl, rfl, rfl, by decide +kernel, rfl, by decide +kernel, by decide +kernel⟩
abbrev a_is_spot (K : PySem.W.Frag) : Addr := ga K "is_spot"
theorem f_is_spot (E : TX K mg) : FunD K "is_spot" "is_spot" (defArgs s_is_spot) (defBody s_is_spot) (defScope s_is_spot) [] [] (a_is_spot K) (fdOf K (a_is_spot K)) := E.def_ 2 (d := d_is_spot) rfl
theorem b_is_spot (E : TX K mg) : Binds K (fdOf K (a_is_spot K)) P_is_spot [] := (f_is_spot E).bindsN fun _ _ _ _ _ _ us hl => match us, hl with | [_], _ => rfl
theorem g_is_spot (E : TX K mg) : mg "is_spot" = some (.ref (a_is_spot K)) := E.glo 2 rfl
theorem k_is_spot (E : TX K mg) : PySem.W.keepIn K (.ref (a_is_spot K)) = true := (f_is_spot E).kp
abbrev N_is_kind : List Str := ["value"]
abbrev P_is_kind : List Str := ["value"]
theorem sc_is_kind : FnScope N_is_kind P_is_kind (defScope s_is_kind) := ⟨rfl, rfl, rfl, by decide +kernel, rfl, by decide +kernel, by decide +kernel⟩
abbrev a_is_kind (K : PySem.W.Frag) : Addr := ga K "is_kind"
theorem f_is_kind (E : TX K mg) : FunD K "is_kind" "is_kind" (defArgs s_is_kind) (defBody s_is_kind) (defScope s_is_kind) [] [] (a_is_kind K) (fdOf K (a_is_kind K)) := E.def_ 3 (d := d_is_kind) rfl
theorem b_is_kind (E : TX K mg) : Binds K (fdOf K (a_is_kind K)) P_is_kind [] := (f_is_kind E).bindsN fun _ _ _ _ _ _ us hl => match us, hl with | [_], _ => rfl
theorem g_is_kind (E : TX K mg) : mg "is_kind" = some (.ref (a_is_kind K)) := E.glo 3 rfl
theorem k_is_kind (E : TX K mg) : PySem.W.keepIn K (.ref (a_is_kind K)) = true := (f_is_kind E).kp
abbrev N_check_kind : List Str := ["kind"]
abbrev P_check_kind : List Str := ["kind"]
theorem sc_check_kind : FnScope N_check_kind P_check_kind (defScope s_check_kind) := ⟨rfl, rfl, rfl, by decide +kernel, rfl, by decide +kernel, by decide +kernel⟩
abbrev a_check_kind (K : PySem.W.Frag) : Addr := ga K "check_kind"
theorem f_check_kind (E : TX K mg) : FunD K "check_kind" "check_kind" (defArgs s_check_kind) (defBody s_check_kind) (defScope s_check_kind) [] [] (a_check_kind K) (fdOf K (a_check_kind K)) := E.def_ 4 (d := d_check_kind) rfl
theorem b_check_kind (E : TX K mg) : Binds K (fdOf K (a_check_kind K)) P_check_kind [] := (f_check_kind E).bindsN fun _ _ _ _ _ _ us hl => match us, hl with | [_], _ => rfl
theorem g_check_kind (E : TX K mg) : mg "check_kind" = some (.ref (a_check_kind K)) := E.glo 4 rfl
theorem k_check_kind (E : TX K mg) : PySem.W.keepIn K (.ref (a_check_kind K)) = true := (f_check_kind E).kp
abbrev N_counts_columns : List Str := ["kind"]
abbrev P_counts_columns : List Str := ["kind"]
theorem sc_counts_columns : FnScope N_counts_columns P_counts_columns (defScope s_counts_columns) := ⟨rfl, rfl, rfl, by decide +kernel, rfl, by decide +kernel, by decide +kernel⟩
abbrev a_counts_columns (K : PySem.W.Frag) : Addr := ga K "counts_columns"
theorem f_counts_columns (E : TX K mg) : FunD K "counts_columns" "counts_columns" (defArgs s_counts_columns) (defBody s_counts_columns) (defScope s_counts_columns) [] [] (a_counts_columns K) (fdOf K (a_counts_columns K)) := E.def_ 5 (d := d_counts_columns) rfl
theorem b_counts_columns (E : TX K mg) : Binds K (fdOf K (a_counts_columns K)) P_counts_columns [] := (f_counts_columns E).bindsN fun _ _ _ _ _ _ us hl => match us, hl with | [_], _ => rfl
theorem g_counts_columns (E : TX K mg) : mg "counts_columns" = some (.ref (a_counts_columns K)) := E.glo 5 rfl
theorem k_counts_columns (E : TX K mg) : PySem.W.keepIn K (.ref (a_counts_columns K)) = true := (f_counts_columns E).kp
abbrev N_counts_rows : List Str := ["kind"]
abbrev P_counts_rows : List Str := ["kind"]
theorem sc_counts_rows : FnScope N_counts_rows P_counts_rows (defScope s_counts_rows) := ⟨rfl, rfl, rfl, by decide +kernel, rfl, by decide +kernel, by decide +kernel⟩
abbrev a_counts_rows (K : PySem.W.Frag) : Addr := ga K "counts_rows"
theorem f_counts_rows (E : TX K mg) : FunD K "counts_rows" "counts_rows" (defArgs s_counts_rows) (defBody s_counts_rows) (defScope s_counts_rows) [] [] (a_counts_rows K) (fdOf K (a_counts_rows K)) := E.def_ 6 (d := d_counts_rows) rfl
theorem b_counts_rows (E : TX K mg) : Binds K (fdOf K (a_counts_rows K)) P_counts_rows [] := (f_counts_rows E).bindsN fun _ _ _ _ _ _ us hl => match us, hl with | [_], _ => rfl
theorem g_counts_rows (E : TX K mg) : mg "counts_rows" = some (.ref (a_counts_rows K)) := E.glo 6 rfl
theorem k_counts_rows (E : TX K mg) : PySem.W.keepIn K (.ref (a_counts_rows K)) = true := (f_counts_rows E).kp
abbrev N_is_possible_pair : List Str := ["value"]
abbrev P_is_possible_pair : List Str := ["value"]
theorem sc_is_possible_pair : FnScope N_is_possible_pair P_is_possible_pair (defScope s_is_possible_pair) := ⟨rfl, rfl, rfl, by decide +kernel, rfl, by decide +kernel, by decide +kernel⟩
abbrev a_is_possible_pair (K : PySem.W.Frag) : Addr := ga K "is_possible_pair"
theorem f_is_possible_pair (E : TX K mg) : FunD K "is_possible_pair" "is_possible_pair" (defArgs s_is_possible_pair) (defBody s_is_possible_pair) (defScope s_is_possible_pair) [] [] (a_is_possible_pair K) (fdOf K (a_is_possible_pair K)) := E.def_ 7 (d := d_is_possible_pair) rfl
theorem b_is_possible_pair (E : TX K mg) : Binds K (fdOf K (a_is_possible_pair K)) P_is_possible_pair [] := (f_is_possible_pair E).bindsN fun _ _ _ _ _ _ us hl => match us, hl with | [_], _ => rfl
theorem g_is_possible_pair (E : TX K mg) : mg "is_possible_pair" = some (.ref (a_is_possible_pair K)) := E.glo 7 rfl
theorem k_is_possible_pair (E : TX K mg) : PySem.W.keepIn K (.ref (a_is_possible_pair K)) = true := (f_is_possible_pair E).kp
abbrev N_Order__init__ : List Str := ["self", "pairs", "at", "pair"]
abbrev P_Order__init__ : List Str := ["self", "pairs"]
theorem sc_Order__init__ : FnScope N_Order__init__ P_Order__init__ (defScope s_Order__init__) := ⟨rfl, rfl, rfl, by decide +kernel, rfl, by decide +kernel, by decide +kernel⟩
abbrev a_Order__init__ (K : PySem.W.Frag) : Addr := ma K (ga K "Order") "__init__"
theorem f_Order__init__ (E : TX K mg) : FunD K "__init__" "Order.__init__" (defArgs s_Order__init__) (defBody s_Order__init__) (defScope s_Order__init__) [] [] (a_Order__init__ K) (fdOf K (a_Order__init__ K)) := E.def_ 8 (d := d_Order__init__) rfl
theorem b_Order__init__ (E : TX K mg) : Binds K (fdOf K (a_Order__init__ K)) P_Order__init__ [] := (f_Order__init__ E).bindsN fun _ _ _ _ _ _ us hl => match us, hl with | [_, _], _ => rfl
abbrev N_Order__len__ : List Str := ["self"]
abbrev P_Order__len__ : List Str := ["self"]
theorem sc_Order__len__ : FnScope N_Order__len__ P_Order__len__ (defScope s_Order__len__) := ⟨rfl, rfl, rfl, by decide +kernel, rfl, by decide +kernel, by decide +kernel⟩
abbrev a_Order__len__ (K : PySem.W.Frag) : Addr := ma K (ga K "Order") "__len__"
theorem f_Order__len__ (E : TX K mg) : FunD K "__len__" "Order.__len__" (defArgs s_Order__len__) (defBody s_Order__len__) (defScope s_Order__len__) [] [] (a_Order__len__ K) (fdOf K (a_Order__len__ K)) := E.def_ 9 (d := d_Order__len__) rfl
theorem b_Order__len__ (E : TX K mg) : Binds K (fdOf K (a_Order__len__ K)) P_Order__len__ [] := (f_Order__len__ E).bindsN fun _ _ _ _ _ _ us hl => match us, hl with | [_], _ => rfl
theorem m_Order__len__ (E : TX K mg) : Meth K (ga K "Order") "__len__" (a_Order__len__ K) := meth_ok (E.sd.fact 69 (f := .meth "Order" "__len__") rfl)
abbrev N_Order_pairs : List Str := ["self"]
abbrev P_Order_pairs : List Str := ["self"]
theorem sc_Order_pairs : FnScope N_Order_pairs P_Order_pairs (defScope s_Order_pairs) := ⟨rfl, rfl, rfl, by decide +kernel, rfl, by decide +kernel, by decide +kernel⟩
abbrev a_Order_pairs (K : PySem.W.Frag) : Addr := ma K (ga K "Order") "pairs"
theorem f_Order_pairs (E : TX K mg) : FunD K "pairs" "Order.pairs" (defArgs s_Order_pairs) (defBody s_Order_pairs) (defScope s_Order_pairs) [] [] (a_Order_pairs K) (fdOf K (a_Order_pairs K)) := E.def_ 10 (d := d_Order_pairs) rfl
theorem b_Order_pairs (E : TX K mg) : Binds K (fdOf K (a_Order_pairs K)) P_Order_pairs [] := (f_Order_pairs E).bindsN fun _ _ _ _ _ _ us hl => match us, hl with | [_], _ => rfl
theorem m_Order_pairs (E : TX K mg) : Meth K (ga K "Order") "pairs" (a_Order_pairs K) := meth_ok (E.sd.fact 70 (f := .meth "Order" "pairs") rfl)
abbrev N_Order_exchanged : List Str := ["self", "k", "pairs"]
abbrev P_Order_exchanged : List Str := ["self", "k"]
theorem sc_Order_exchanged : FnScope N_Order_exchanged P_Order_exchanged (defScope s_Order_exchanged) := ⟨rfl, rfl, rfl, by decide +kernel, rfl, by decide +kernel, by decide +kernel⟩
abbrev a_Order_exchanged (K : PySem.W.Frag) : Addr := ma K (ga K "Order") "exchanged"
theorem f_Order_exchanged (E : TX K mg) : FunD K "exchanged" "Order.exchanged" (defArgs s_Order_exchanged) (defBody s_Order_exchanged) (defScope s_Order_exchanged) [] [] (a_Order_exchanged K) (fdOf K (a_Order_exchanged K)) := E.def_ 11 (d := d_Order_exchanged) rfl
theorem b_Order_exchanged (E : TX K mg) : Binds K (fdOf K (a_Order_exchanged K)) P_Order_exchanged [] := (f_Order_exchanged E).bindsN fun _ _ _ _ _ _ us hl => match us, hl with | [_, _], _ => rfl
theorem m_Order_exchanged (E : TX K mg) : Meth K (ga K "Order") "exchanged" (a_Order_exchanged K) := meth_ok (E.sd.fact 71 (f := .meth "Order" "exchanged") rfl)
abbrev N_check_order : List Str := ["table", "order", "pair"]
abbrev P_check_order : List Str := ["table", "order"]
theorem sc_check_order : FnScope N_check_order P_check_order (defScope s_check_order) := ⟨rfl, rfl, rfl, by decide +kernel, rfl, by decide +kernel, by decide +kernel⟩
abbrev a_check_order (K : PySem.W.Frag) : Addr := ga K "check_order"
theorem f_check_order (E : TX K mg) : FunD K "check_order" "check_order" (defArgs s_check_order) (defBody s_check_order) (defScope s_check_order) [] [] (a_check_order K) (fdOf K (a_check_order K)) := E.def_ 12 (d := d_check_order) rfl
theorem b_check_order (E : TX K mg) : Binds K (fdOf K (a_check_order K)) P_check_order [] := (f_check_order E).bindsN fun _ _ _ _ _ _ us hl => match us, hl with | [_, _], _ => rfl
theorem g_check_order (E : TX K mg) : mg "check_order" = some (.ref (a_check_order K)) := E.glo 8 rfl
theorem k_check_order (E : TX K mg) : PySem.W.keepIn K (.ref (a_check_order K)) = true := (f_check_order E).kp
abbrev N_check_list : List Str := ["word", "entries", "at", "entry"]
abbrev P_check_list : List Str := ["word", "entries"]
theorem sc_check_list : FnScope N_check_list P_check_list (defScope s_check_list) := ⟨rfl, rfl, rfl, by decide +kernel, rfl, by decide +kernel, by decide +kernel⟩
abbrev a_check_list (K : PySem.W.Frag) : Addr := ga K "check_list"
theorem f_check_list (E : TX K mg) : FunD K "check_list" "check_list" (defArgs s_check_list) (defBody s_check_list) (defScope s_check_list) [] [] (a_check_list K) (fdOf K (a_check_list K)) := E.def_ 13 (d := d_check_list) rfl
theorem b_check_list (E : TX K mg) : Binds K (fdOf K (a_check_list K)) P_check_list [] := (f_check_list E).bindsN fun _ _ _ _ _ _ us hl => match us, hl with | [_, _], _ => rfl
theorem g_check_list (E : TX K mg) : mg "check_list" = some (.ref (a_check_list K)) := E.glo 9 rfl
theorem k_check_list (E : TX K mg) : PySem.W.keepIn K (.ref (a_check_list K)) = true := (f_check_list E).kp
abbrev N_Amounts__init__ : List Str := ["self", "stocks", "wishes"]
abbrev P_Amounts__init__ : List Str := ["self", "stocks", "wishes"]
theorem sc_Amounts__init__ : FnScope N_Amounts__init__ P_Amounts__init__ (defScope s_Amounts__init__) := ⟨rfl, rfl, rfl, by decide +kernel, rfl, by decide +kernel, by decide +kernel⟩
abbrev a_Amounts__init__ (K : PySem.W.Frag) : Addr := ma K (ga K "Amounts") "__init__"
theorem f_Amounts__init__ (E : TX K mg) : FunD K "__init__" "Amounts.__init__" (defArgs s_Amounts__init__) (defBody s_Amounts__init__) (defScope s_Amounts__init__) [] [] (a_Amounts__init__ K) (fdOf K (a_Amounts__init__ K)) := E.def_ 14 (d := d_Amounts__init__) rfl
theorem b_Amounts__init__ (E : TX K mg) : Binds K (fdOf K (a_Amounts__init__ K)) P_Amounts__init__ [] := (f_Amounts__init__ E).bindsN fun _ _ _ _ _ _ us hl => match us, hl with | [_, _, _], _ => rfl
abbrev N_Amounts_stocks : List Str := ["self"]
abbrev P_Amounts_stocks : List Str := ["self"]
theorem sc_Amounts_stocks : FnScope N_Amounts_stocks P_Amounts_stocks (defScope s_Amounts_stocks) := ⟨rfl, rfl, rfl, by decide +kernel, rfl, by decide +kernel, by decide +kernel⟩
abbrev a_Amounts_stocks (K : PySem.W.Frag) : Addr := ma K (ga K "Amounts") "stocks"
theorem f_Amounts_stocks (E : TX K mg) : FunD K "stocks" "Amounts.stocks" (defArgs s_Amounts_stocks) (defBody s_Amounts_stocks) (defScope s_Amounts_stocks) [] [] (a_Amounts_stocks K) (fdOf K (a_Amounts_stocks K)) := E.def_ 15 (d := d_Amounts_stocks) rfl
theorem b_Amounts_stocks (E : TX K mg) : Binds K (fdOf K (a_Amounts_stocks K)) P_Amounts_stocks [] := (f_Amounts_stocks E).bindsN fun _ _ _ _ _ _ us hl => match us, hl with | [_], _ => rfl
theorem m_Amounts_stocks (E : TX K mg) : Meth K (ga K "Amounts") "stocks" (a_Amounts_stocks K) := meth_ok (E.sd.fact 72 (f := .meth "Amounts" "stocks") rfl)
abbrev N_Amounts_wishes : List Str := ["self"]
abbrev P_Amounts_wishes : List Str := ["self"]
theorem sc_Amounts_wishes : FnScope N_Amounts_wishes P_Amounts_wishes (defScope s_Amounts_wishes) := ⟨rfl, rfl, rfl, by decide +kernel, rfl, by decide +kernel, by decide +kernel⟩
abbrev a_Amounts_wishes (K : PySem.W.Frag) : Addr := ma K (ga K "Amounts") "wishes"
theorem f_Amounts_wishes (E : TX K mg) : FunD K "wishes" "Amounts.wishes" (defArgs s_Amounts_wishes) (defBody s_Amounts_wishes) (defScope s_Amounts_wishes) [] [] (a_Amounts_wishes K) (fdOf K (a_Amounts_wishes K)) := E.def_ 16 (d := d_Amounts_wishes) rfl
theorem b_Amounts_wishes (E : TX K mg) : Binds K (fdOf K (a_Amounts_wishes K)) P_Amounts_wishes [] := (f_Amounts_wishes E).bindsN fun _ _ _ _ _ _ us hl => match us, hl with | [_], _ => rfl
theorem m_Amounts_wishes (E : TX K mg) : Meth K (ga K "Amounts") "wishes" (a_Amounts_wishes K) := meth_ok (E.sd.fact 73 (f := .meth "Amounts" "wishes") rfl)
abbrev N_Amounts_over : List Str := ["self"]
abbrev P_Amounts_over : List Str := ["self"]
theorem sc_Amounts_over : FnScope N_Amounts_over P_Amounts_over (defScope s_Amounts_over) := ⟨rfl, rfl, rfl, by decide +kernel, rfl, by decide +kernel, by decide +kernel⟩
abbrev a_Amounts_over (K : PySem.W.Frag) : Addr := ma K (ga K "Amounts") "over"
theorem f_Amounts_over (E : TX K mg) : FunD K "over" "Amounts.over" (defArgs s_Amounts_over) (defBody s_Amounts_over) (defScope s_Amounts_over) [] [] (a_Amounts_over K) (fdOf K (a_Amounts_over K)) := E.def_ 17 (d := d_Amounts_over) rfl
theorem b_Amounts_over (E : TX K mg) : Binds K (fdOf K (a_Amounts_over K)) P_Amounts_over [] := (f_Amounts_over E).bindsN fun _ _ _ _ _ _ us hl => match us, hl with | [_], _ => rfl
theorem m_Amounts_over (E : TX K mg) : Meth K (ga K "Amounts") "over" (a_Amounts_over K) := meth_ok (E.sd.fact 74 (f := .meth "Amounts" "over") rfl)
abbrev N_Amounts_fits_size : List Str := ["self", "table"]
abbrev P_Amounts_fits_size : List Str := ["self", "table"]
theorem sc_Amounts_fits_size : FnScope N_Amounts_fits_size P_Amounts_fits_size (defScope s_Amounts_fits_size) := ⟨rfl, rfl, rfl, by decide +kernel, rfl, by decide +kernel, by decide +kernel⟩
abbrev a_Amounts_fits_size (K : PySem.W.Frag) : Addr := ma K (ga K "Amounts") "fits_size"
theorem f_Amounts_fits_size (E : TX K mg) : FunD K "fits_size" "Amounts.fits_size" (defArgs s_Amounts_fits_size) (defBody s_Amounts_fits_size) (defScope s_Amounts_fits_size) [] [] (a_Amounts_fits_size K) (fdOf K (a_Amounts_fits_size K)) := E.def_ 18 (d := d_Amounts_fits_size) rfl
theorem b_Amounts_fits_size (E : TX K mg) : Binds K (fdOf K (a_Amounts_fits_size K)) P_Amounts_fits_size [] := (f_Amounts_fits_size E).bindsN fun _ _ _ _ _ _ us hl => match us, hl with | [_, _], _ => rfl
theorem m_Amounts_fits_size (E : TX K mg) : Meth K (ga K "Amounts") "fits_size" (a_Amounts_fits_size K) := meth_ok (E.sd.fact 75 (f := .meth "Amounts" "fits_size") rfl)
abbrev N_check_size : List Str := ["table", "amounts"]
abbrev P_check_size : List Str := ["table", "amounts"]
theorem sc_check_size : FnScope N_check_size P_check_size (defScope s_check_size) := ⟨rfl, rfl, rfl, by decide +kernel, rfl, by decide +kernel, by decide +kernel⟩
abbrev a_check_size (K : PySem.W.Frag) : Addr := ga K "check_size"
theorem f_check_size (E : TX K mg) : FunD K "check_size" "check_size" (defArgs s_check_size) (defBody s_check_size) (defScope s_check_size) [] [] (a_check_size K) (fdOf K (a_check_size K)) := E.def_ 19 (d := d_check_size) rfl
theorem b_check_size (E : TX K mg) : Binds K (fdOf K (a_check_size K)) P_check_size [] := (f_check_size E).bindsN fun _ _ _ _ _ _ us hl => match us, hl with | [_, _], _ => rfl
theorem g_check_size (E : TX K mg) : mg "check_size" = some (.ref (a_check_size K)) := E.glo 10 rfl
theorem k_check_size (E : TX K mg) : PySem.W.keepIn K (.ref (a_check_size K)) = true := (f_check_size E).kp
abbrev N_is_dearer : List Str := ["grid", "pair", "other", "i", "j", "r", "s"]
abbrev P_is_dearer : List Str := ["grid", "pair", "other"]
theorem sc_is_dearer : FnScope N_is_dearer P_is_dearer (defScope s_is_dearer) := ⟨rfl, rfl, rfl, by decide +kernel, rfl, by decide +kernel, by decide +kernel⟩
abbrev a_is_dearer (K : PySem.W.Frag) : Addr := ga K "is_dearer"
theorem f_is_dearer (E : TX K mg) : FunD K "is_dearer" "is_dearer" (defArgs s_is_dearer) (defBody s_is_dearer) (defScope s_is_dearer) [] [] (a_is_dearer K) (fdOf K (a_is_dearer K)) := E.def_ 20 (d := d_is_dearer) rfl
theorem b_is_dearer (E : TX K mg) : Binds K (fdOf K (a_is_dearer K)) P_is_dearer [] := (f_is_dearer E).bindsN fun _ _ _ _ _ _ us hl => match us, hl with | [_, _, _], _ => rfl
theorem g_is_dearer (E : TX K mg) : mg "is_dearer" = some (.ref (a_is_dearer K)) := E.glo 11 rfl
theorem k_is_dearer (E : TX K mg) : PySem.W.keepIn K (.ref (a_is_dearer K)) = true := (f_is_dearer E).kp
abbrev N_bars : List Str := ["table", "behind", "pair", "kind", "grid", "i", "j", "stocks", "r", "wishes", "s"]
abbrev P_bars : List Str := ["table", "behind", "pair", "kind"]
theorem sc_bars : GScope N_bars P_bars (defScope s_bars) := ⟨rfl, rfl, rfl, by decide +kernel, rfl, by decide +kernel, by decide +kernel⟩
abbrev a_bars (K : PySem.W.Frag) : Addr := ga K "bars"
theorem f_bars (E : TX K mg) : FunD K "bars" "bars" (defArgs s_bars) (defBody s_bars) (defScope s_bars) [] [] (a_bars K) (fdOf K (a_bars K)) := E.def_ 21 (d := d_bars) rfl
theorem b_bars (E : TX K mg) : Binds K (fdOf K (a_bars K)) P_bars [] := (f_bars E).bindsN fun _ _ _ _ _ _ us hl => match us, hl with | [_, _, _, _], _ => rfl
theorem g_bars (E : TX K mg) : mg "bars" = some (.ref (a_bars K)) := E.glo 12 rfl
theorem k_bars (E : TX K mg) : PySem.W.keepIn K (.ref (a_bars K)) = true := (f_bars E).kp
abbrev N_first_bar : List Str := ["table", "behind", "pair", "kind", "bar"]
abbrev P_first_bar : List Str := ["table", "behind", "pair", "kind"]
theorem sc_first_bar : FnScope N_first_bar P_first_bar (defScope s_first_bar) := ⟨rfl, rfl, rfl, by decide +kernel, rfl, by decide +kernel, by decide +kernel⟩
abbrev a_first_bar (K : PySem.W.Frag) : Addr := ga K "first_bar"
theorem f_first_bar (E : TX K mg) : FunD K "first_bar" "first_bar" (defArgs s_first_bar) (defBody s_first_bar) (defScope s_first_bar) [] [] (a_first_bar K) (fdOf K (a_first_bar K)) := E.def_ 22 (d := d_first_bar) rfl
theorem b_first_bar (E : TX K mg) : Binds K (fdOf K (a_first_bar K)) P_first_bar [] := (f_first_bar E).bindsN fun _ _ _ _ _ _ us hl => match us, hl with | [_, _, _, _], _ => rfl
theorem g_first_bar (E : TX K mg) : mg "first_bar" = some (.ref (a_first_bar K)) := E.glo 13 rfl
theorem k_first_bar (E : TX K mg) : PySem.W.keepIn K (.ref (a_first_bar K)) = true := (f_first_bar E).kp
abbrev N_Serving__init__ : List Str := ["self", "table", "amounts", "served", "pair"]
abbrev P_Serving__init__ : List Str := ["self", "table", "amounts", "served"]
theorem sc_Serving__init__ : FnScope N_Serving__init__ P_Serving__init__ (defScope s_Serving__init__) := ⟨rfl, rfl, rfl, by decide +kernel, rfl, by decide +kernel, by decide +kernel⟩
abbrev a_Serving__init__ (K : PySem.W.Frag) : Addr := ma K (ga K "Serving") "__init__"
theorem f_Serving__init__ (E : TX K mg) : FunD K "__init__" "Serving.__init__" (defArgs s_Serving__init__) (defBody s_Serving__init__) (defScope s_Serving__init__) [] [] (a_Serving__init__ K) (fdOf K (a_Serving__init__ K)) := E.def_ 23 (d := d_Serving__init__) rfl
theorem b_Serving__init__ (E : TX K mg) : Binds K (fdOf K (a_Serving__init__ K)) P_Serving__init__ [] := (f_Serving__init__ E).bindsN fun _ _ _ _ _ _ us hl => match us, hl with | [_, _, _, _], _ => rfl
abbrev N_Serving__getitem__ : List Str := ["self", "pair"]
abbrev P_Serving__getitem__ : List Str := ["self", "pair"]
theorem sc_Serving__getitem__ : FnScope N_Serving__getitem__ P_Serving__getitem__ (defScope s_Serving__getitem__) := ⟨rfl, rfl, rfl, by decide +kernel, rfl, by decide +kernel, by decide +kernel⟩
abbrev a_Serving__getitem__ (K : PySem.W.Frag) : Addr := ma K (ga K "Serving") "__getitem__"
theorem f_Serving__getitem__ (E : TX K mg) : FunD K "__getitem__" "Serving.__getitem__" (defArgs s_Serving__getitem__) (defBody s_Serving__getitem__) (defScope s_Serving__getitem__) [] [] (a_Serving__getitem__ K) (fdOf K (a_Serving__getitem__ K)) := E.def_ 24 (d := d_Serving__getitem__) rfl
theorem b_Serving__getitem__ (E : TX K mg) : Binds K (fdOf K (a_Serving__getitem__ K)) P_Serving__getitem__ [] := (f_Serving__getitem__ E).bindsN fun _ _ _ _ _ _ us hl => match us, hl with | [_, _], _ => rfl
theorem m_Serving__getitem__ (E : TX K mg) : Meth K (ga K "Serving") "__getitem__" (a_Serving__getitem__ K) := meth_ok (E.sd.fact 76 (f := .meth "Serving" "__getitem__") rfl)
abbrev N_Serving_moved : List Str := ["self", "pair"]
abbrev P_Serving_moved : List Str := ["self"]
theorem sc_Serving_moved : FnScope N_Serving_moved P_Serving_moved (defScope s_Serving_moved) := ⟨rfl, rfl, rfl, by decide +kernel, rfl, by decide +kernel, by decide +kernel⟩
abbrev a_Serving_moved (K : PySem.W.Frag) : Addr := ma K (ga K "Serving") "moved"
theorem f_Serving_moved (E : TX K mg) : FunD K "moved" "Serving.moved" (defArgs s_Serving_moved) (defBody s_Serving_moved) (defScope s_Serving_moved) [] [] (a_Serving_moved K) (fdOf K (a_Serving_moved K)) := E.def_ 25 (d := d_Serving_moved) rfl
theorem b_Serving_moved (E : TX K mg) : Binds K (fdOf K (a_Serving_moved K)) P_Serving_moved [] := (f_Serving_moved E).bindsN fun _ _ _ _ _ _ us hl => match us, hl with | [_], _ => rfl
theorem m_Serving_moved (E : TX K mg) : Meth K (ga K "Serving") "moved" (a_Serving_moved K) := meth_ok (E.sd.fact 77 (f := .meth "Serving" "moved") rfl)
abbrev N_Serving_cost : List Str := ["self", "pair", "amount"]
abbrev P_Serving_cost : List Str := ["self"]
theorem sc_Serving_cost : FnScope N_Serving_cost P_Serving_cost (defScope s_Serving_cost) := ⟨rfl, rfl, rfl, by decide +kernel, rfl, by decide +kernel, by decide +kernel⟩
abbrev a_Serving_cost (K : PySem.W.Frag) : Addr := ma K (ga K "Serving") "cost"
theorem f_Serving_cost (E : TX K mg) : FunD K "cost" "Serving.cost" (defArgs s_Serving_cost) (defBody s_Serving_cost) (defScope s_Serving_cost) [] [] (a_Serving_cost K) (fdOf K (a_Serving_cost K)) := E.def_ 26 (d := d_Serving_cost) rfl
theorem b_Serving_cost (E : TX K mg) : Binds K (fdOf K (a_Serving_cost K)) P_Serving_cost [] := (f_Serving_cost E).bindsN fun _ _ _ _ _ _ us hl => match us, hl with | [_], _ => rfl
theorem m_Serving_cost (E : TX K mg) : Meth K (ga K "Serving") "cost" (a_Serving_cost K) := meth_ok (E.sd.fact 78 (f := .meth "Serving" "cost") rfl)
abbrev N_Server__init__ : List Str := ["self", "table", "order"]
abbrev P_Server__init__ : List Str := ["self", "table", "order"]
theorem sc_Server__init__ : FnScope N_Server__init__ P_Server__init__ (defScope s_Server__init__) := ⟨rfl, rfl, rfl, by decide +kernel, rfl, by decide +kernel, by decide +kernel⟩
abbrev a_Server__init__ (K : PySem.W.Frag) : Addr := ma K (ga K "Server") "__init__"
theorem f_Server__init__ (E : TX K mg) : FunD K "__init__" "Server.__init__" (defArgs s_Server__init__) (defBody s_Server__init__) (defScope s_Server__init__) [] [] (a_Server__init__ K) (fdOf K (a_Server__init__ K)) := E.def_ 27 (d := d_Server__init__) rfl
theorem b_Server__init__ (E : TX K mg) : Binds K (fdOf K (a_Server__init__ K)) P_Server__init__ [] := (f_Server__init__ E).bindsN fun _ _ _ _ _ _ us hl => match us, hl with | [_, _, _], _ => rfl
abbrev N_Server__call__ : List Str := ["self", "amounts", "served", "pair", "amount"]
abbrev P_Server__call__ : List Str := ["self", "amounts"]
theorem sc_Server__call__ : FnScope N_Server__call__ P_Server__call__ (defScope s_Server__call__) := ⟨rfl, rfl, rfl, by decide +kernel, rfl, by decide +kernel, by decide +kernel⟩
abbrev a_Server__call__ (K : PySem.W.Frag) : Addr := ma K (ga K "Server") "__call__"
theorem f_Server__call__ (E : TX K mg) : FunD K "__call__" "Server.__call__" (defArgs s_Server__call__) (defBody s_Server__call__) (defScope s_Server__call__) [] [] (a_Server__call__ K) (fdOf K (a_Server__call__ K)) := E.def_ 28 (d := d_Server__call__) rfl
theorem b_Server__call__ (E : TX K mg) : Binds K (fdOf K (a_Server__call__ K)) P_Server__call__ [] := (f_Server__call__ E).bindsN fun _ _ _ _ _ _ us hl => match us, hl with | [_, _], _ => rfl
theorem m_Server__call__ (E : TX K mg) : Meth K (ga K "Server") "__call__" (a_Server__call__ K) := meth_ok (E.sd.fact 79 (f := .meth "Server" "__call__") rfl)
abbrev N_Server_steps : List Str := ["self", "amounts", "stocks", "wishes", "pair", "i", "j", "amount"]
abbrev P_Server_steps : List Str := ["self", "amounts"]
theorem sc_Server_steps : GScope N_Server_steps P_Server_steps (defScope s_Server_steps) := ⟨rfl, rfl, rfl, by decide +kernel, rfl, by decide +kernel, by decide +kernel⟩
abbrev a_Server_steps (K : PySem.W.Frag) : Addr := ma K (ga K "Server") "steps"
theorem f_Server_steps (E : TX K mg) : FunD K "steps" "Server.steps" (defArgs s_Server_steps) (defBody s_Server_steps) (defScope s_Server_steps) [] [] (a_Server_steps K) (fdOf K (a_Server_steps K)) := E.def_ 29 (d := d_Server_steps) rfl
theorem b_Server_steps (E : TX K mg) : Binds K (fdOf K (a_Server_steps K)) P_Server_steps [] := (f_Server_steps E).bindsN fun _ _ _ _ _ _ us hl => match us, hl with | [_, _], _ => rfl
theorem m_Server_steps (E : TX K mg) : Meth K (ga K "Server") "steps" (a_Server_steps K) := meth_ok (E.sd.fact 80 (f := .meth "Server" "steps") rfl)
abbrev N_first_fault : List Str := ["table", "order", "kind", "behind", "pair", "bar"]
abbrev P_first_fault : List Str := ["table", "order", "kind"]
theorem sc_first_fault : FnScope N_first_fault P_first_fault (defScope s_first_fault) := ⟨rfl, rfl, rfl, by decide +kernel, rfl, by decide +kernel, by decide +kernel⟩
abbrev a_first_fault (K : PySem.W.Frag) : Addr := ga K "first_fault"
theorem f_first_fault (E : TX K mg) : FunD K "first_fault" "first_fault" (defArgs s_first_fault) (defBody s_first_fault) (defScope s_first_fault) [] [("kind", V.str "even")] (a_first_fault K) (fdOf K (a_first_fault K)) := E.def_ 30 (d := d_first_fault) rfl
theorem b_first_fault (E : TX K mg) : KBn K (fdOf K (a_first_fault K)) P_first_fault 2 ["kind"] (fun us ws => us ++ ws) (fun vs zs => vs ++ zs) := by
  obtain ⟨oc, od, dV, kV, doc, pm, an, cdv, ct, osl, e, lk, hcd, hD, hK⟩ := (f_first_fault E).ex
  refine ⟨fun s us ws _ h1 h2 => ?_, fun r1 r2 => r1.append r2⟩
  rw [e]
  rcases hD with ⟨_, rfl⟩ | ⟨z, _⟩
  · match us, ws, h1, h2 with
    | [_, _], [_], _, _ => exact .of_eq rfl
  · exact absurd rfl z
theorem g_first_fault (E : TX K mg) : mg "first_fault" = some (.ref (a_first_fault K)) := E.glo 14 rfl
theorem k_first_fault (E : TX K mg) : PySem.W.keepIn K (.ref (a_first_fault K)) = true := (f_first_fault E).kp
abbrev N_check_right : List Str := ["table", "order", "kind", "fault"]
abbrev P_check_right : List Str := ["table", "order", "kind"]
theorem sc_check_right : FnScope N_check_right P_check_right (defScope s_check_right) := ⟨rfl, rfl, rfl, by decide +kernel, rfl, by decide +kernel, by decide +kernel⟩
abbrev a_check_right (K : PySem.W.Frag) : Addr := ga K "check_right"
theorem f_check_right (E : TX K mg) : FunD K "check_right" "check_right" (defArgs s_check_right) (defBody s_check_right) (defScope s_check_right) [] [] (a_check_right K) (fdOf K (a_check_right K)) := E.def_ 31 (d := d_check_right) rfl
theorem b_check_right (E : TX K mg) : Binds K (fdOf K (a_check_right K)) P_check_right [] := (f_check_right E).bindsN fun _ _ _ _ _ _ us hl => match us, hl with | [_, _, _], _ => rfl
theorem g_check_right (E : TX K mg) : mg "check_right" = some (.ref (a_check_right K)) := E.glo 15 rfl
theorem k_check_right (E : TX K mg) : PySem.W.keepIn K (.ref (a_check_right K)) = true := (f_check_right E).kp
abbrev N_check_both : List Str := ["table", "one", "other", "kind"]
abbrev P_check_both : List Str := ["table", "one", "other", "kind"]
theorem sc_check_both : FnScope N_check_both P_check_both (defScope s_check_both) := ⟨rfl, rfl, rfl, by decide +kernel, rfl, by decide +kernel, by decide +kernel⟩
abbrev a_check_both (K : PySem.W.Frag) : Addr := ga K "check_both"
theorem f_check_both (E : TX K mg) : FunD K "check_both" "check_both" (defArgs s_check_both) (defBody s_check_both) (defScope s_check_both) [] [] (a_check_both K) (fdOf K (a_check_both K)) := E.def_ 32 (d := d_check_both) rfl
theorem b_check_both (E : TX K mg) : Binds K (fdOf K (a_check_both K)) P_check_both [] := (f_check_both E).bindsN fun _ _ _ _ _ _ us hl => match us, hl with | [_, _, _, _], _ => rfl
theorem g_check_both (E : TX K mg) : mg "check_both" = some (.ref (a_check_both K)) := E.glo 16 rfl
theorem k_check_both (E : TX K mg) : PySem.W.keepIn K (.ref (a_check_both K)) = true := (f_check_both E).kp
abbrev N_led : List Str := ["table", "one", "other", "kind", "present", "exchanges", "place", "pair", "at"]
abbrev P_led : List Str := ["table", "one", "other", "kind"]
theorem sc_led : FnScope N_led P_led (defScope s_led) := ⟨rfl, rfl, rfl, by decide +kernel, rfl, by decide +kernel, by decide +kernel⟩
abbrev a_led (K : PySem.W.Frag) : Addr := ga K "led"
theorem f_led (E : TX K mg) : FunD K "led" "led" (defArgs s_led) (defBody s_led) (defScope s_led) [] [("kind", V.str "even")] (a_led K) (fdOf K (a_led K)) := E.def_ 33 (d := d_led) rfl
theorem b_led (E : TX K mg) : KBn K (fdOf K (a_led K)) P_led 3 ["kind"] (fun us ws => us ++ ws) (fun vs zs => vs ++ zs) := by
  obtain ⟨oc, od, dV, kV, doc, pm, an, cdv, ct, osl, e, lk, hcd, hD, hK⟩ := (f_led E).ex
  refine ⟨fun s us ws _ h1 h2 => ?_, fun r1 r2 => r1.append r2⟩
  rw [e]
  rcases hD with ⟨_, rfl⟩ | ⟨z, _⟩
  · match us, ws, h1, h2 with
    | [_, _, _], [_], _, _ => exact .of_eq rfl
  · exact absurd rfl z
theorem g_led (E : TX K mg) : mg "led" = some (.ref (a_led K)) := E.glo 17 rfl
theorem k_led (E : TX K mg) : PySem.W.keepIn K (.ref (a_led K)) = true := (f_led E).kp
abbrev N_is_entry : List Str := ["value"]
abbrev P_is_entry : List Str := ["value"]
theorem sc_is_entry : FnScope N_is_entry P_is_entry (defScope s_is_entry) := ⟨rfl, rfl, rfl, by decide +kernel, rfl, by decide +kernel, by decide +kernel⟩
abbrev a_is_entry (K : PySem.W.Frag) : Addr := ga K "is_entry"
theorem f_is_entry (E : TX K mg) : FunD K "is_entry" "is_entry" (defArgs s_is_entry) (defBody s_is_entry) (defScope s_is_entry) [] [] (a_is_entry K) (fdOf K (a_is_entry K)) := E.def_ 34 (d := d_is_entry) rfl
theorem b_is_entry (E : TX K mg) : Binds K (fdOf K (a_is_entry K)) P_is_entry [] := (f_is_entry E).bindsN fun _ _ _ _ _ _ us hl => match us, hl with | [_], _ => rfl
theorem g_is_entry (E : TX K mg) : mg "is_entry" = some (.ref (a_is_entry K)) := E.glo 18 rfl
theorem k_is_entry (E : TX K mg) : PySem.W.keepIn K (.ref (a_is_entry K)) = true := (f_is_entry E).kp
abbrev N_is_row : List Str := ["value", "width", "entry"]
abbrev P_is_row : List Str := ["value", "width"]
theorem sc_is_row : FnScope N_is_row P_is_row (defScope s_is_row) := ⟨rfl, rfl, rfl, by decide +kernel, rfl, by decide +kernel, by decide +kernel⟩
abbrev a_is_row (K : PySem.W.Frag) : Addr := ga K "is_row"
theorem f_is_row (E : TX K mg) : FunD K "is_row" "is_row" (defArgs s_is_row) (defBody s_is_row) (defScope s_is_row) [] [] (a_is_row K) (fdOf K (a_is_row K)) := E.def_ 35 (d := d_is_row) rfl
theorem b_is_row (E : TX K mg) : Binds K (fdOf K (a_is_row K)) P_is_row [] := (f_is_row E).bindsN fun _ _ _ _ _ _ us hl => match us, hl with | [_, _], _ => rfl
theorem g_is_row (E : TX K mg) : mg "is_row" = some (.ref (a_is_row K)) := E.glo 19 rfl
theorem k_is_row (E : TX K mg) : PySem.W.keepIn K (.ref (a_is_row K)) = true := (f_is_row E).kp
abbrev N_width_of : List Str := ["rows"]
abbrev P_width_of : List Str := ["rows"]
theorem sc_width_of : FnScope N_width_of P_width_of (defScope s_width_of) := ⟨rfl, rfl, rfl, by decide +kernel, rfl, by decide +kernel, by decide +kernel⟩
abbrev a_width_of (K : PySem.W.Frag) : Addr := ga K "width_of"
theorem f_width_of (E : TX K mg) : FunD K "width_of" "width_of" (defArgs s_width_of) (defBody s_width_of) (defScope s_width_of) [] [] (a_width_of K) (fdOf K (a_width_of K)) := E.def_ 36 (d := d_width_of) rfl
theorem b_width_of (E : TX K mg) : Binds K (fdOf K (a_width_of K)) P_width_of [] := (f_width_of E).bindsN fun _ _ _ _ _ _ us hl => match us, hl with | [_], _ => rfl
theorem g_width_of (E : TX K mg) : mg "width_of" = some (.ref (a_width_of K)) := E.glo 20 rfl
theorem k_width_of (E : TX K mg) : PySem.W.keepIn K (.ref (a_width_of K)) = true := (f_width_of E).kp
abbrev N_Table__init__ : List Str := ["self", "rows", "width", "at", "row"]
abbrev P_Table__init__ : List Str := ["self", "rows"]
theorem sc_Table__init__ : FnScope N_Table__init__ P_Table__init__ (defScope s_Table__init__) := ⟨rfl, rfl, rfl, by decide +kernel, rfl, by decide +kernel, by decide +kernel⟩
abbrev a_Table__init__ (K : PySem.W.Frag) : Addr := ma K (ga K "Table") "__init__"
theorem f_Table__init__ (E : TX K mg) : FunD K "__init__" "Table.__init__" (defArgs s_Table__init__) (defBody s_Table__init__) (defScope s_Table__init__) [] [] (a_Table__init__ K) (fdOf K (a_Table__init__ K)) := E.def_ 37 (d := d_Table__init__) rfl
theorem b_Table__init__ (E : TX K mg) : Binds K (fdOf K (a_Table__init__ K)) P_Table__init__ [] := (f_Table__init__ E).bindsN fun _ _ _ _ _ _ us hl => match us, hl with | [_, _], _ => rfl
abbrev N_Table__len__ : List Str := ["self"]
abbrev P_Table__len__ : List Str := ["self"]
theorem sc_Table__len__ : FnScope N_Table__len__ P_Table__len__ (defScope s_Table__len__) := ⟨rfl, rfl, rfl, by decide +kernel, rfl, by decide +kernel, by decide +kernel⟩
abbrev a_Table__len__ (K : PySem.W.Frag) : Addr := ma K (ga K "Table") "__len__"
theorem f_Table__len__ (E : TX K mg) : FunD K "__len__" "Table.__len__" (defArgs s_Table__len__) (defBody s_Table__len__) (defScope s_Table__len__) [] [] (a_Table__len__ K) (fdOf K (a_Table__len__ K)) := E.def_ 38 (d := d_Table__len__) rfl
theorem b_Table__len__ (E : TX K mg) : Binds K (fdOf K (a_Table__len__ K)) P_Table__len__ [] := (f_Table__len__ E).bindsN fun _ _ _ _ _ _ us hl => match us, hl with | [_], _ => rfl
theorem m_Table__len__ (E : TX K mg) : Meth K (ga K "Table") "__len__" (a_Table__len__ K) := meth_ok (E.sd.fact 81 (f := .meth "Table" "__len__") rfl)
abbrev N_Table__getitem__ : List Str := ["self", "at"]
abbrev P_Table__getitem__ : List Str := ["self", "at"]
theorem sc_Table__getitem__ : FnScope N_Table__getitem__ P_Table__getitem__ (defScope s_Table__getitem__) := ⟨rfl, rfl, rfl, by decide +kernel, rfl, by decide +kernel, by decide +kernel⟩
abbrev a_Table__getitem__ (K : PySem.W.Frag) : Addr := ma K (ga K "Table") "__getitem__"
theorem f_Table__getitem__ (E : TX K mg) : FunD K "__getitem__" "Table.__getitem__" (defArgs s_Table__getitem__) (defBody s_Table__getitem__) (defScope s_Table__getitem__) [] [] (a_Table__getitem__ K) (fdOf K (a_Table__getitem__ K)) := E.def_ 39 (d := d_Table__getitem__) rfl
theorem b_Table__getitem__ (E : TX K mg) : Binds K (fdOf K (a_Table__getitem__ K)) P_Table__getitem__ [] := (f_Table__getitem__ E).bindsN fun _ _ _ _ _ _ us hl => match us, hl with | [_, _], _ => rfl
theorem m_Table__getitem__ (E : TX K mg) : Meth K (ga K "Table") "__getitem__" (a_Table__getitem__ K) := meth_ok (E.sd.fact 82 (f := .meth "Table" "__getitem__") rfl)
abbrev N_Table__contains__ : List Str := ["self", "value"]
abbrev P_Table__contains__ : List Str := ["self", "value"]
theorem sc_Table__contains__ : FnScope N_Table__contains__ P_Table__contains__ (defScope s_Table__contains__) := ⟨rfl, rfl, rfl, by decide +kernel, rfl, by decide +kernel, by decide +kernel⟩
abbrev a_Table__contains__ (K : PySem.W.Frag) : Addr := ma K (ga K "Table") "__contains__"
theorem f_Table__contains__ (E : TX K mg) : FunD K "__contains__" "Table.__contains__" (defArgs s_Table__contains__) (defBody s_Table__contains__) (defScope s_Table__contains__) [] [] (a_Table__contains__ K) (fdOf K (a_Table__contains__ K)) := E.def_ 40 (d := d_Table__contains__) rfl
theorem b_Table__contains__ (E : TX K mg) : Binds K (fdOf K (a_Table__contains__ K)) P_Table__contains__ [] := (f_Table__contains__ E).bindsN fun _ _ _ _ _ _ us hl => match us, hl with | [_, _], _ => rfl
theorem m_Table__contains__ (E : TX K mg) : Meth K (ga K "Table") "__contains__" (a_Table__contains__ K) := meth_ok (E.sd.fact 83 (f := .meth "Table" "__contains__") rfl)
abbrev N_Table_stocks : List Str := ["self"]
abbrev P_Table_stocks : List Str := ["self"]
theorem sc_Table_stocks : FnScope N_Table_stocks P_Table_stocks (defScope s_Table_stocks) := ⟨rfl, rfl, rfl, by decide +kernel, rfl, by decide +kernel, by decide +kernel⟩
abbrev a_Table_stocks (K : PySem.W.Frag) : Addr := ma K (ga K "Table") "stocks"
theorem f_Table_stocks (E : TX K mg) : FunD K "stocks" "Table.stocks" (defArgs s_Table_stocks) (defBody s_Table_stocks) (defScope s_Table_stocks) [] [] (a_Table_stocks K) (fdOf K (a_Table_stocks K)) := E.def_ 41 (d := d_Table_stocks) rfl
theorem b_Table_stocks (E : TX K mg) : Binds K (fdOf K (a_Table_stocks K)) P_Table_stocks [] := (f_Table_stocks E).bindsN fun _ _ _ _ _ _ us hl => match us, hl with | [_], _ => rfl
theorem m_Table_stocks (E : TX K mg) : Meth K (ga K "Table") "stocks" (a_Table_stocks K) := meth_ok (E.sd.fact 84 (f := .meth "Table" "stocks") rfl)
abbrev N_Table_wishes : List Str := ["self"]
abbrev P_Table_wishes : List Str := ["self"]
theorem sc_Table_wishes : FnScope N_Table_wishes P_Table_wishes (defScope s_Table_wishes) := ⟨rfl, rfl, rfl, by decide +kernel, rfl, by decide +kernel, by decide +kernel⟩
abbrev a_Table_wishes (K : PySem.W.Frag) : Addr := ma K (ga K "Table") "wishes"
theorem f_Table_wishes (E : TX K mg) : FunD K "wishes" "Table.wishes" (defArgs s_Table_wishes) (defBody s_Table_wishes) (defScope s_Table_wishes) [] [] (a_Table_wishes K) (fdOf K (a_Table_wishes K)) := E.def_ 42 (d := d_Table_wishes) rfl
theorem b_Table_wishes (E : TX K mg) : Binds K (fdOf K (a_Table_wishes K)) P_Table_wishes [] := (f_Table_wishes E).bindsN fun _ _ _ _ _ _ us hl => match us, hl with | [_], _ => rfl
theorem m_Table_wishes (E : TX K mg) : Meth K (ga K "Table") "wishes" (a_Table_wishes K) := meth_ok (E.sd.fact 85 (f := .meth "Table" "wishes") rfl)
abbrev N_Table_rows : List Str := ["self", "row"]
abbrev P_Table_rows : List Str := ["self"]
theorem sc_Table_rows : FnScope N_Table_rows P_Table_rows (defScope s_Table_rows) := ⟨rfl, rfl, rfl, by decide +kernel, rfl, by decide +kernel, by decide +kernel⟩
abbrev a_Table_rows (K : PySem.W.Frag) : Addr := ma K (ga K "Table") "rows"
theorem f_Table_rows (E : TX K mg) : FunD K "rows" "Table.rows" (defArgs s_Table_rows) (defBody s_Table_rows) (defScope s_Table_rows) [] [] (a_Table_rows K) (fdOf K (a_Table_rows K)) := E.def_ 43 (d := d_Table_rows) rfl
theorem b_Table_rows (E : TX K mg) : Binds K (fdOf K (a_Table_rows K)) P_Table_rows [] := (f_Table_rows E).bindsN fun _ _ _ _ _ _ us hl => match us, hl with | [_], _ => rfl
theorem m_Table_rows (E : TX K mg) : Meth K (ga K "Table") "rows" (a_Table_rows K) := meth_ok (E.sd.fact 86 (f := .meth "Table" "rows") rfl)
abbrev N_Table_has_cell : List Str := ["self", "value"]
abbrev P_Table_has_cell : List Str := ["self", "value"]
theorem sc_Table_has_cell : FnScope N_Table_has_cell P_Table_has_cell (defScope s_Table_has_cell) := ⟨rfl, rfl, rfl, by decide +kernel, rfl, by decide +kernel, by decide +kernel⟩
abbrev a_Table_has_cell (K : PySem.W.Frag) : Addr := ma K (ga K "Table") "has_cell"
theorem f_Table_has_cell (E : TX K mg) : FunD K "has_cell" "Table.has_cell" (defArgs s_Table_has_cell) (defBody s_Table_has_cell) (defScope s_Table_has_cell) [] [] (a_Table_has_cell K) (fdOf K (a_Table_has_cell K)) := E.def_ 44 (d := d_Table_has_cell) rfl
theorem b_Table_has_cell (E : TX K mg) : Binds K (fdOf K (a_Table_has_cell K)) P_Table_has_cell [] := (f_Table_has_cell E).bindsN fun _ _ _ _ _ _ us hl => match us, hl with | [_, _], _ => rfl
theorem m_Table_has_cell (E : TX K mg) : Meth K (ga K "Table") "has_cell" (a_Table_has_cell K) := meth_ok (E.sd.fact 87 (f := .meth "Table" "has_cell") rfl)
abbrev N_Table_pairs : List Str := ["self", "i", "row", "j", "price"]
abbrev P_Table_pairs : List Str := ["self"]
theorem sc_Table_pairs : FnScope N_Table_pairs P_Table_pairs (defScope s_Table_pairs) := ⟨rfl, rfl, rfl, by decide +kernel, rfl, by decide +kernel, by decide +kernel⟩
abbrev a_Table_pairs (K : PySem.W.Frag) : Addr := ma K (ga K "Table") "pairs"
theorem f_Table_pairs (E : TX K mg) : FunD K "pairs" "Table.pairs" (defArgs s_Table_pairs) (defBody s_Table_pairs) (defScope s_Table_pairs) [] [] (a_Table_pairs K) (fdOf K (a_Table_pairs K)) := E.def_ 45 (d := d_Table_pairs) rfl
theorem b_Table_pairs (E : TX K mg) : Binds K (fdOf K (a_Table_pairs K)) P_Table_pairs [] := (f_Table_pairs E).bindsN fun _ _ _ _ _ _ us hl => match us, hl with | [_], _ => rfl
theorem m_Table_pairs (E : TX K mg) : Meth K (ga K "Table") "pairs" (a_Table_pairs K) := meth_ok (E.sd.fact 88 (f := .meth "Table" "pairs") rfl)
abbrev N_reach : List Str := ["usable", "flow", "sources_left", "targets_left", "source_from", "row", "target_from", "target", "queue", "source", "left", "at", "may_use", "other"]
abbrev P_reach : List Str := ["usable", "flow", "sources_left", "targets_left"]
theorem sc_reach : FnScope N_reach P_reach (defScope s_reach) := ⟨rfl, rfl, rfl, by decide +kernel, rfl, by decide +kernel, by decide +kernel⟩
abbrev a_reach (K : PySem.W.Frag) : Addr := ga K "reach"
theorem f_reach (E : TX K mg) : FunD K "reach" "reach" (defArgs s_reach) (defBody s_reach) (defScope s_reach) [] [] (a_reach K) (fdOf K (a_reach K)) := E.def_ 46 (d := d_reach) rfl
theorem b_reach (E : TX K mg) : Binds K (fdOf K (a_reach K)) P_reach [] := (f_reach E).bindsN fun _ _ _ _ _ _ us hl => match us, hl with | [_, _, _, _], _ => rfl
theorem g_reach (E : TX K mg) : mg "reach" = some (.ref (a_reach K)) := E.glo 21 rfl
theorem k_reach (E : TX K mg) : PySem.W.keepIn K (.ref (a_reach K)) = true := (f_reach E).kp
abbrev N_path_to : List Str := ["goal", "source_from", "target_from", "gains", "losses", "target", "source"]
abbrev P_path_to : List Str := ["goal", "source_from", "target_from"]
theorem sc_path_to : FnScope N_path_to P_path_to (defScope s_path_to) := ⟨rfl, rfl, rfl, by decide +kernel, rfl, by decide +kernel, by decide +kernel⟩
abbrev a_path_to (K : PySem.W.Frag) : Addr := ga K "path_to"
theorem f_path_to (E : TX K mg) : FunD K "path_to" "path_to" (defArgs s_path_to) (defBody s_path_to) (defScope s_path_to) [] [] (a_path_to K) (fdOf K (a_path_to K)) := E.def_ 47 (d := d_path_to) rfl
theorem b_path_to (E : TX K mg) : Binds K (fdOf K (a_path_to K)) P_path_to [] := (f_path_to E).bindsN fun _ _ _ _ _ _ us hl => match us, hl with | [_, _, _], _ => rfl
theorem g_path_to (E : TX K mg) : mg "path_to" = some (.ref (a_path_to K)) := E.glo 22 rfl
theorem k_path_to (E : TX K mg) : PySem.W.keepIn K (.ref (a_path_to K)) = true := (f_path_to E).kp
abbrev N_augment : List Str := ["flow", "sources_left", "targets_left", "gains", "losses", "start", "goal", "amount", "source", "target"]
abbrev P_augment : List Str := ["flow", "sources_left", "targets_left", "gains", "losses"]
theorem sc_augment : FnScope N_augment P_augment (defScope s_augment) := ⟨rfl, rfl, rfl, by decide +kernel, rfl, by decide +kernel, by decide +kernel⟩
abbrev a_augment (K : PySem.W.Frag) : Addr := ga K "augment"
theorem f_augment (E : TX K mg) : FunD K "augment" "augment" (defArgs s_augment) (defBody s_augment) (defScope s_augment) [] [] (a_augment K) (fdOf K (a_augment K)) := E.def_ 48 (d := d_augment) rfl
theorem b_augment (E : TX K mg) : Binds K (fdOf K (a_augment K)) P_augment [] := (f_augment E).bindsN fun _ _ _ _ _ _ us hl => match us, hl with | [_, _, _, _, _], _ => rfl
theorem g_augment (E : TX K mg) : mg "augment" = some (.ref (a_augment K)) := E.glo 23 rfl
theorem k_augment (E : TX K mg) : PySem.W.keepIn K (.ref (a_augment K)) = true := (f_augment E).kp
abbrev N_greatest_flow : List Str := ["usable", "sources", "targets", "flow", "source", "target", "sources_left", "targets_left", "source_from", "target_from", "goal", "gains", "losses", "reached"]
abbrev P_greatest_flow : List Str := ["usable", "sources", "targets"]
theorem sc_greatest_flow : FnScope N_greatest_flow P_greatest_flow (defScope s_greatest_flow) := ⟨rfl, rfl, rfl, by decide +kernel, rfl, by decide +kernel, by decide +kernel⟩
abbrev a_greatest_flow (K : PySem.W.Frag) : Addr := ga K "greatest_flow"
theorem f_greatest_flow (E : TX K mg) : FunD K "greatest_flow" "greatest_flow" (defArgs s_greatest_flow) (defBody s_greatest_flow) (defScope s_greatest_flow) [] [] (a_greatest_flow K) (fdOf K (a_greatest_flow K)) := E.def_ 49 (d := d_greatest_flow) rfl
theorem b_greatest_flow (E : TX K mg) : Binds K (fdOf K (a_greatest_flow K)) P_greatest_flow [] := (f_greatest_flow E).bindsN fun _ _ _ _ _ _ us hl => match us, hl with | [_, _, _], _ => rfl
theorem g_greatest_flow (E : TX K mg) : mg "greatest_flow" = some (.ref (a_greatest_flow K)) := E.glo 24 rfl
theorem k_greatest_flow (E : TX K mg) : PySem.W.keepIn K (.ref (a_greatest_flow K)) = true := (f_greatest_flow E).kp
abbrev N_least_prices : List Str := ["grid", "least", "column", "found", "row", "price"]
abbrev P_least_prices : List Str := ["grid"]
theorem sc_least_prices : FnScope N_least_prices P_least_prices (defScope s_least_prices) := ⟨rfl, rfl, rfl, by decide +kernel, rfl, by decide +kernel, by decide +kernel⟩
abbrev a_least_prices (K : PySem.W.Frag) : Addr := ga K "least_prices"
theorem f_least_prices (E : TX K mg) : FunD K "least_prices" "least_prices" (defArgs s_least_prices) (defBody s_least_prices) (defScope s_least_prices) [] [] (a_least_prices K) (fdOf K (a_least_prices K)) := E.def_ 50 (d := d_least_prices) rfl
theorem b_least_prices (E : TX K mg) : Binds K (fdOf K (a_least_prices K)) P_least_prices [] := (f_least_prices E).bindsN fun _ _ _ _ _ _ us hl => match us, hl with | [_], _ => rfl
theorem g_least_prices (E : TX K mg) : mg "least_prices" = some (.ref (a_least_prices K)) := E.glo 25 rfl
theorem k_least_prices (E : TX K mg) : PySem.W.keepIn K (.ref (a_least_prices K)) = true := (f_least_prices E).kp
abbrev N_tight_pairs : List Str := ["grid", "row_worths", "column_worths", "tight", "row", "worth", "price", "other"]
abbrev P_tight_pairs : List Str := ["grid", "row_worths", "column_worths"]
theorem sc_tight_pairs : FnScope N_tight_pairs P_tight_pairs (defScope s_tight_pairs) := ⟨rfl, rfl, rfl, by decide +kernel, rfl, by decide +kernel, by decide +kernel⟩
abbrev a_tight_pairs (K : PySem.W.Frag) : Addr := ga K "tight_pairs"
theorem f_tight_pairs (E : TX K mg) : FunD K "tight_pairs" "tight_pairs" (defArgs s_tight_pairs) (defBody s_tight_pairs) (defScope s_tight_pairs) [] [] (a_tight_pairs K) (fdOf K (a_tight_pairs K)) := E.def_ 51 (d := d_tight_pairs) rfl
theorem b_tight_pairs (E : TX K mg) : Binds K (fdOf K (a_tight_pairs K)) P_tight_pairs [] := (f_tight_pairs E).bindsN fun _ _ _ _ _ _ us hl => match us, hl with | [_, _, _], _ => rfl
theorem g_tight_pairs (E : TX K mg) : mg "tight_pairs" = some (.ref (a_tight_pairs K)) := E.glo 26 rfl
theorem k_tight_pairs (E : TX K mg) : PySem.W.keepIn K (.ref (a_tight_pairs K)) = true := (f_tight_pairs E).kp
abbrev N_least_gap : List Str := ["grid", "row_worths", "column_worths", "source_from", "target_from", "gap", "source", "row", "target", "price", "found"]
abbrev P_least_gap : List Str := ["grid", "row_worths", "column_worths", "source_from", "target_from"]
theorem sc_least_gap : FnScope N_least_gap P_least_gap (defScope s_least_gap) := ⟨rfl, rfl, rfl, by decide +kernel, rfl, by decide +kernel, by decide +kernel⟩
abbrev a_least_gap (K : PySem.W.Frag) : Addr := ga K "least_gap"
theorem f_least_gap (E : TX K mg) : FunD K "least_gap" "least_gap" (defArgs s_least_gap) (defBody s_least_gap) (defScope s_least_gap) [] [] (a_least_gap K) (fdOf K (a_least_gap K)) := E.def_ 52 (d := d_least_gap) rfl
theorem b_least_gap (E : TX K mg) : Binds K (fdOf K (a_least_gap K)) P_least_gap [] := (f_least_gap E).bindsN fun _ _ _ _ _ _ us hl => match us, hl with | [_, _, _, _, _], _ => rfl
theorem g_least_gap (E : TX K mg) : mg "least_gap" = some (.ref (a_least_gap K)) := E.glo 27 rfl
theorem k_least_gap (E : TX K mg) : PySem.W.keepIn K (.ref (a_least_gap K)) = true := (f_least_gap E).kp
abbrev N_cheapest_flow : List Str := ["grid", "sources", "targets", "flow", "source", "target", "sources_left", "targets_left", "row_worths", "column_worths", "usable", "source_from", "target_from", "goal", "gains", "losses", "gap"]
abbrev P_cheapest_flow : List Str := ["grid", "sources", "targets"]
theorem sc_cheapest_flow : FnScope N_cheapest_flow P_cheapest_flow (defScope s_cheapest_flow) := ⟨rfl, rfl, rfl, by decide +kernel, rfl, by decide +kernel, by decide +kernel⟩
abbrev a_cheapest_flow (K : PySem.W.Frag) : Addr := ga K "cheapest_flow"
theorem f_cheapest_flow (E : TX K mg) : FunD K "cheapest_flow" "cheapest_flow" (defArgs s_cheapest_flow) (defBody s_cheapest_flow) (defScope s_cheapest_flow) [] [] (a_cheapest_flow K) (fdOf K (a_cheapest_flow K)) := E.def_ 53 (d := d_cheapest_flow) rfl
theorem b_cheapest_flow (E : TX K mg) : Binds K (fdOf K (a_cheapest_flow K)) P_cheapest_flow [] := (f_cheapest_flow E).bindsN fun _ _ _ _ _ _ us hl => match us, hl with | [_, _, _], _ => rfl
theorem g_cheapest_flow (E : TX K mg) : mg "cheapest_flow" = some (.ref (a_cheapest_flow K)) := E.glo 28 rfl
theorem k_cheapest_flow (E : TX K mg) : PySem.W.keepIn K (.ref (a_cheapest_flow K)) = true := (f_cheapest_flow E).kp
abbrev N_turned_grid : List Str := ["grid", "column", "row"]
abbrev P_turned_grid : List Str := ["grid"]
theorem sc_turned_grid : FnScope N_turned_grid P_turned_grid (defScope s_turned_grid) := ⟨rfl, rfl, rfl, by decide +kernel, rfl, by decide +kernel, by decide +kernel⟩
abbrev a_turned_grid (K : PySem.W.Frag) : Addr := ga K "turned_grid"
theorem f_turned_grid (E : TX K mg) : FunD K "turned_grid" "turned_grid" (defArgs s_turned_grid) (defBody s_turned_grid) (defScope s_turned_grid) [] [] (a_turned_grid K) (fdOf K (a_turned_grid K)) := E.def_ 54 (d := d_turned_grid) rfl
theorem b_turned_grid (E : TX K mg) : Binds K (fdOf K (a_turned_grid K)) P_turned_grid [] := (f_turned_grid E).bindsN fun _ _ _ _ _ _ us hl => match us, hl with | [_], _ => rfl
theorem g_turned_grid (E : TX K mg) : mg "turned_grid" = some (.ref (a_turned_grid K)) := E.glo 29 rfl
theorem k_turned_grid (E : TX K mg) : PySem.W.keepIn K (.ref (a_turned_grid K)) = true := (f_turned_grid E).kp
abbrev N_shortage : List Str := ["table", "amounts", "usable", "row", "price", "stocks", "wishes", "left", "reached", "word"]
abbrev P_shortage : List Str := ["table", "amounts"]
theorem sc_shortage : FnScope N_shortage P_shortage (defScope s_shortage) := ⟨rfl, rfl, rfl, by decide +kernel, rfl, by decide +kernel, by decide +kernel⟩
abbrev a_shortage (K : PySem.W.Frag) : Addr := ga K "shortage"
theorem f_shortage (E : TX K mg) : FunD K "shortage" "shortage" (defArgs s_shortage) (defBody s_shortage) (defScope s_shortage) [] [] (a_shortage K) (fdOf K (a_shortage K)) := E.def_ 55 (d := d_shortage) rfl
theorem b_shortage (E : TX K mg) : Binds K (fdOf K (a_shortage K)) P_shortage [] := (f_shortage E).bindsN fun _ _ _ _ _ _ us hl => match us, hl with | [_, _], _ => rfl
theorem g_shortage (E : TX K mg) : mg "shortage" = some (.ref (a_shortage K)) := E.glo 30 rfl
theorem k_shortage (E : TX K mg) : PySem.W.keepIn K (.ref (a_shortage K)) = true := (f_shortage E).kp
abbrev N_balanced : List Str := ["grid", "stocks", "wishes", "over", "row", "wish"]
abbrev P_balanced : List Str := ["grid", "stocks", "wishes"]
theorem sc_balanced : FnScope N_balanced P_balanced (defScope s_balanced) := ⟨rfl, rfl, rfl, by decide +kernel, rfl, by decide +kernel, by decide +kernel⟩
abbrev a_balanced (K : PySem.W.Frag) : Addr := ga K "balanced"
theorem f_balanced (E : TX K mg) : FunD K "balanced" "balanced" (defArgs s_balanced) (defBody s_balanced) (defScope s_balanced) [] [] (a_balanced K) (fdOf K (a_balanced K)) := E.def_ 56 (d := d_balanced) rfl
theorem b_balanced (E : TX K mg) : Binds K (fdOf K (a_balanced K)) P_balanced [] := (f_balanced E).bindsN fun _ _ _ _ _ _ us hl => match us, hl with | [_, _, _], _ => rfl
theorem g_balanced (E : TX K mg) : mg "balanced" = some (.ref (a_balanced K)) := E.glo 31 rfl
theorem k_balanced (E : TX K mg) : PySem.W.keepIn K (.ref (a_balanced K)) = true := (f_balanced E).kp
abbrev N_plain_worths : List Str := ["row_worths", "column_worths", "stock_count", "wish_count", "move", "stock_worths", "worth", "wish_worths"]
abbrev P_plain_worths : List Str := ["row_worths", "column_worths", "stock_count", "wish_count"]
theorem sc_plain_worths : FnScope N_plain_worths P_plain_worths (defScope s_plain_worths) := ⟨rfl, rfl, rfl, by decide +kernel, rfl, by decide +kernel, by decide +kernel⟩
abbrev a_plain_worths (K : PySem.W.Frag) : Addr := ga K "plain_worths"
theorem f_plain_worths (E : TX K mg) : FunD K "plain_worths" "plain_worths" (defArgs s_plain_worths) (defBody s_plain_worths) (defScope s_plain_worths) [] [] (a_plain_worths K) (fdOf K (a_plain_worths K)) := E.def_ 57 (d := d_plain_worths) rfl
theorem b_plain_worths (E : TX K mg) : Binds K (fdOf K (a_plain_worths K)) P_plain_worths [] := (f_plain_worths E).bindsN fun _ _ _ _ _ _ us hl => match us, hl with | [_, _, _, _], _ => rfl
theorem g_plain_worths (E : TX K mg) : mg "plain_worths" = some (.ref (a_plain_worths K)) := E.glo 32 rfl
theorem k_plain_worths (E : TX K mg) : PySem.W.keepIn K (.ref (a_plain_worths K)) = true := (f_plain_worths E).kp
abbrev N_cheapest : List Str := ["table", "amounts", "found", "grid", "stocks", "wishes", "flow", "row_worths", "column_worths", "served", "stock", "wish", "worths"]
abbrev P_cheapest : List Str := ["table", "amounts"]
theorem sc_cheapest : FnScope N_cheapest P_cheapest (defScope s_cheapest) := ⟨rfl, rfl, rfl, by decide +kernel, rfl, by decide +kernel, by decide +kernel⟩
abbrev a_cheapest (K : PySem.W.Frag) : Addr := ga K "cheapest"
theorem f_cheapest (E : TX K mg) : FunD K "cheapest" "cheapest" (defArgs s_cheapest) (defBody s_cheapest) (defScope s_cheapest) [] [] (a_cheapest K) (fdOf K (a_cheapest K)) := E.def_ 58 (d := d_cheapest) rfl
theorem b_cheapest (E : TX K mg) : Binds K (fdOf K (a_cheapest K)) P_cheapest [] := (f_cheapest E).bindsN fun _ _ _ _ _ _ us hl => match us, hl with | [_, _], _ => rfl
theorem g_cheapest (E : TX K mg) : mg "cheapest" = some (.ref (a_cheapest K)) := E.glo 33 rfl
theorem k_cheapest (E : TX K mg) : PySem.W.keepIn K (.ref (a_cheapest K)) = true := (f_cheapest E).kp
abbrev N_least_cost : List Str := ["table", "amounts", "serving", "worths"]
abbrev P_least_cost : List Str := ["table", "amounts"]
theorem sc_least_cost : FnScope N_least_cost P_least_cost (defScope s_least_cost) := ⟨rfl, rfl, rfl, by decide +kernel, rfl, by decide +kernel, by decide +kernel⟩
abbrev a_least_cost (K : PySem.W.Frag) : Addr := ga K "least_cost"
theorem f_least_cost (E : TX K mg) : FunD K "least_cost" "least_cost" (defArgs s_least_cost) (defBody s_least_cost) (defScope s_least_cost) [] [] (a_least_cost K) (fdOf K (a_least_cost K)) := E.def_ 59 (d := d_least_cost) rfl
theorem b_least_cost (E : TX K mg) : Binds K (fdOf K (a_least_cost K)) P_least_cost [] := (f_least_cost E).bindsN fun _ _ _ _ _ _ us hl => match us, hl with | [_, _], _ => rfl
theorem g_least_cost (E : TX K mg) : mg "least_cost" = some (.ref (a_least_cost K)) := E.glo 34 rfl
theorem k_least_cost (E : TX K mg) : PySem.W.keepIn K (.ref (a_least_cost K)) = true := (f_least_cost E).kp
abbrev N__law_cell : List Str := ["_law_script", "_law_k"]
abbrev P__law_cell : List Str := ["_law_script", "_law_k"]
theorem sc__law_cell : FnScope N__law_cell P__law_cell (defScope s__law_cell) := ⟨rfl, rfl, rfl, by decide +kernel, rfl, by decide +kernel, by decide +kernel⟩
abbrev a__law_cell (K : PySem.W.Frag) : Addr := ga K "_law_cell"
theorem f__law_cell (E : TX K mg) : FunD K "_law_cell" "_law_cell" (defArgs s__law_cell) (defBody s__law_cell) (defScope s__law_cell) [] [] (a__law_cell K) (fdOf K (a__law_cell K)) := E.def_ 60 (d := d__law_cell) rfl
theorem b__law_cell (E : TX K mg) : Binds K (fdOf K (a__law_cell K)) P__law_cell [] := (f__law_cell E).bindsN fun _ _ _ _ _ _ us hl => match us, hl with | [_, _], _ => rfl
theorem g__law_cell (E : TX K mg) : mg "_law_cell" = some (.ref (a__law_cell K)) := E.glo 35 rfl
theorem k__law_cell (E : TX K mg) : PySem.W.keepIn K (.ref (a__law_cell K)) = true := (f__law_cell E).kp
abbrev N__law_mixed : List Str := ["_law_cell_here", "_law_k", "_law_number"]
abbrev P__law_mixed : List Str := ["_law_cell_here", "_law_k"]
theorem sc__law_mixed : FnScope N__law_mixed P__law_mixed (defScope s__law_mixed) := ⟨rfl, rfl, rfl, by decide +kernel, rfl, by decide +kernel, by decide +kernel⟩
abbrev a__law_mixed (K : PySem.W.Frag) : Addr := ga K "_law_mixed"
theorem f__law_mixed (E : TX K mg) : FunD K "_law_mixed" "_law_mixed" (defArgs s__law_mixed) (defBody s__law_mixed) (defScope s__law_mixed) [] [] (a__law_mixed K) (fdOf K (a__law_mixed K)) := E.def_ 61 (d := d__law_mixed) rfl
theorem b__law_mixed (E : TX K mg) : Binds K (fdOf K (a__law_mixed K)) P__law_mixed [] := (f__law_mixed E).bindsN fun _ _ _ _ _ _ us hl => match us, hl with | [_, _], _ => rfl
theorem g__law_mixed (E : TX K mg) : mg "_law_mixed" = some (.ref (a__law_mixed K)) := E.glo 36 rfl
theorem k__law_mixed (E : TX K mg) : PySem.W.keepIn K (.ref (a__law_mixed K)) = true := (f__law_mixed E).kp
abbrev N__law_draws : List Str := ["_law_script", "_law_spot", "_law_sizes", "_law_cell_here", "_law_left", "_law_drawn", "_law_k", "_law_size", "_law_number"]
abbrev P__law_draws : List Str := ["_law_script", "_law_spot", "_law_sizes"]
theorem sc__law_draws : FnScope N__law_draws P__law_draws (defScope s__law_draws) := ⟨rfl, rfl, rfl, by decide +kernel, rfl, by decide +kernel, by decide +kernel⟩
abbrev a__law_draws (K : PySem.W.Frag) : Addr := ga K "_law_draws"
theorem f__law_draws (E : TX K mg) : FunD K "_law_draws" "_law_draws" (defArgs s__law_draws) (defBody s__law_draws) (defScope s__law_draws) [] [] (a__law_draws K) (fdOf K (a__law_draws K)) := E.def_ 62 (d := d__law_draws) rfl
theorem b__law_draws (E : TX K mg) : Binds K (fdOf K (a__law_draws K)) P__law_draws [] := (f__law_draws E).bindsN fun _ _ _ _ _ _ us hl => match us, hl with | [_, _, _], _ => rfl
theorem g__law_draws (E : TX K mg) : mg "_law_draws" = some (.ref (a__law_draws K)) := E.glo 37 rfl
theorem k__law_draws (E : TX K mg) : PySem.W.keepIn K (.ref (a__law_draws K)) = true := (f__law_draws E).kp
abbrev N__law_grid : List Str := ["_law_script", "_law_spot", "_law_m", "_law_n", "_law_style", "_law_share", "_law_spread", "_law_sizes", "_law_drawn", "_law_high", "_law_wide", "_law_grid_here", "_law_i", "_law_row", "_law_j", "_law_number", "_law_price"]
abbrev P__law_grid : List Str := ["_law_script", "_law_spot", "_law_m", "_law_n", "_law_style", "_law_share"]
theorem sc__law_grid : FnScope N__law_grid P__law_grid (defScope s__law_grid) := ⟨rfl, rfl, rfl, by decide +kernel, rfl, by decide +kernel, by decide +kernel⟩
abbrev a__law_grid (K : PySem.W.Frag) : Addr := ga K "_law_grid"
theorem f__law_grid (E : TX K mg) : FunD K "_law_grid" "_law_grid" (defArgs s__law_grid) (defBody s__law_grid) (defScope s__law_grid) [] [] (a__law_grid K) (fdOf K (a__law_grid K)) := E.def_ 63 (d := d__law_grid) rfl
theorem b__law_grid (E : TX K mg) : Binds K (fdOf K (a__law_grid K)) P__law_grid [] := (f__law_grid E).bindsN fun _ _ _ _ _ _ us hl => match us, hl with | [_, _, _, _, _, _], _ => rfl
theorem g__law_grid (E : TX K mg) : mg "_law_grid" = some (.ref (a__law_grid K)) := E.glo 38 rfl
theorem k__law_grid (E : TX K mg) : PySem.W.keepIn K (.ref (a__law_grid K)) = true := (f__law_grid E).kp
abbrev N__law_spots : List Str := ["_law_grid_here", "_law_spots_here", "_law_i", "_law_row", "_law_j", "_law_price"]
abbrev P__law_spots : List Str := ["_law_grid_here"]
theorem sc__law_spots : FnScope N__law_spots P__law_spots (defScope s__law_spots) := ⟨rfl, rfl, rfl, by decide +kernel, rfl, by decide +kernel, by decide +kernel⟩
abbrev a__law_spots (K : PySem.W.Frag) : Addr := ga K "_law_spots"
theorem f__law_spots (E : TX K mg) : FunD K "_law_spots" "_law_spots" (defArgs s__law_spots) (defBody s__law_spots) (defScope s__law_spots) [] [] (a__law_spots K) (fdOf K (a__law_spots K)) := E.def_ 64 (d := d__law_spots) rfl
theorem b__law_spots (E : TX K mg) : Binds K (fdOf K (a__law_spots K)) P__law_spots [] := (f__law_spots E).bindsN fun _ _ _ _ _ _ us hl => match us, hl with | [_], _ => rfl
theorem g__law_spots (E : TX K mg) : mg "_law_spots" = some (.ref (a__law_spots K)) := E.glo 39 rfl
theorem k__law_spots (E : TX K mg) : PySem.W.keepIn K (.ref (a__law_spots K)) = true := (f__law_spots E).kp
abbrev N__law_copy : List Str := ["_law_grid_here", "_law_row"]
abbrev P__law_copy : List Str := ["_law_grid_here"]
theorem sc__law_copy : FnScope N__law_copy P__law_copy (defScope s__law_copy) := ⟨rfl, rfl, rfl, by decide +kernel, rfl, by decide +kernel, by decide +kernel⟩
abbrev a__law_copy (K : PySem.W.Frag) : Addr := ga K "_law_copy"
theorem f__law_copy (E : TX K mg) : FunD K "_law_copy" "_law_copy" (defArgs s__law_copy) (defBody s__law_copy) (defScope s__law_copy) [] [] (a__law_copy K) (fdOf K (a__law_copy K)) := E.def_ 65 (d := d__law_copy) rfl
theorem b__law_copy (E : TX K mg) : Binds K (fdOf K (a__law_copy K)) P__law_copy [] := (f__law_copy E).bindsN fun _ _ _ _ _ _ us hl => match us, hl with | [_], _ => rfl
theorem g__law_copy (E : TX K mg) : mg "_law_copy" = some (.ref (a__law_copy K)) := E.glo 40 rfl
theorem k__law_copy (E : TX K mg) : PySem.W.keepIn K (.ref (a__law_copy K)) = true := (f__law_copy E).kp
abbrev N__law_cross : List Str := ["_law_grid_here", "_law_i", "_law_j", "_law_r", "_law_s", "_law_straight"]
abbrev P__law_cross : List Str := ["_law_grid_here", "_law_i", "_law_j", "_law_r", "_law_s"]
theorem sc__law_cross : FnScope N__law_cross P__law_cross (defScope s__law_cross) := ⟨rfl, rfl, rfl, by decide +kernel, rfl, by decide +kernel, by decide +kernel⟩
abbrev a__law_cross (K : PySem.W.Frag) : Addr := ga K "_law_cross"
theorem f__law_cross (E : TX K mg) : FunD K "_law_cross" "_law_cross" (defArgs s__law_cross) (defBody s__law_cross) (defScope s__law_cross) [] [] (a__law_cross K) (fdOf K (a__law_cross K)) := E.def_ 66 (d := d__law_cross) rfl
theorem b__law_cross (E : TX K mg) : Binds K (fdOf K (a__law_cross K)) P__law_cross [] := (f__law_cross E).bindsN fun _ _ _ _ _ _ us hl => match us, hl with | [_, _, _, _, _], _ => rfl
theorem g__law_cross (E : TX K mg) : mg "_law_cross" = some (.ref (a__law_cross K)) := E.glo 41 rfl
theorem k__law_cross (E : TX K mg) : PySem.W.keepIn K (.ref (a__law_cross K)) = true := (f__law_cross E).kp
abbrev N__law_needs_of : List Str := ["_law_grid_here", "_law_i", "_law_j", "_law_sort", "_law_own", "_law_r", "_law_s"]
abbrev P__law_needs_of : List Str := ["_law_grid_here", "_law_i", "_law_j", "_law_sort"]
theorem sc__law_needs_of : FnScope N__law_needs_of P__law_needs_of (defScope s__law_needs_of) := ⟨rfl, rfl, rfl, by decide +kernel, rfl, by decide +kernel, by decide +kernel⟩
abbrev a__law_needs_of (K : PySem.W.Frag) : Addr := ga K "_law_needs_of"
theorem f__law_needs_of (E : TX K mg) : FunD K "_law_needs_of" "_law_needs_of" (defArgs s__law_needs_of) (defBody s__law_needs_of) (defScope s__law_needs_of) [] [] (a__law_needs_of K) (fdOf K (a__law_needs_of K)) := E.def_ 67 (d := d__law_needs_of) rfl
theorem b__law_needs_of (E : TX K mg) : Binds K (fdOf K (a__law_needs_of K)) P__law_needs_of [] := (f__law_needs_of E).bindsN fun _ _ _ _ _ _ us hl => match us, hl with | [_, _, _, _], _ => rfl
theorem g__law_needs_of (E : TX K mg) : mg "_law_needs_of" = some (.ref (a__law_needs_of K)) := E.glo 42 rfl
theorem k__law_needs_of (E : TX K mg) : PySem.W.keepIn K (.ref (a__law_needs_of K)) = true := (f__law_needs_of E).kp
abbrev N__law_needs : List Str := ["_law_grid_here", "_law_sort", "_law_needs_here", "_law_i", "_law_j"]
abbrev P__law_needs : List Str := ["_law_grid_here", "_law_sort"]
theorem sc__law_needs : FnScope N__law_needs P__law_needs (defScope s__law_needs) := ⟨rfl, rfl, rfl, by decide +kernel, rfl, by decide +kernel, by decide +kernel⟩
abbrev a__law_needs (K : PySem.W.Frag) : Addr := ga K "_law_needs"
theorem f__law_needs (E : TX K mg) : FunD K "_law_needs" "_law_needs" (defArgs s__law_needs) (defBody s__law_needs) (defScope s__law_needs) [] [] (a__law_needs K) (fdOf K (a__law_needs K)) := E.def_ 68 (d := d__law_needs) rfl
theorem b__law_needs (E : TX K mg) : Binds K (fdOf K (a__law_needs K)) P__law_needs [] := (f__law_needs E).bindsN fun _ _ _ _ _ _ us hl => match us, hl with | [_, _], _ => rfl
theorem g__law_needs (E : TX K mg) : mg "_law_needs" = some (.ref (a__law_needs K)) := E.glo 43 rfl
theorem k__law_needs (E : TX K mg) : PySem.W.keepIn K (.ref (a__law_needs K)) = true := (f__law_needs E).kp
abbrev N__law_met : List Str := ["_law_own", "_law_placed", "_law_need", "_law_spot"]
abbrev P__law_met : List Str := ["_law_own", "_law_placed"]
theorem sc__law_met : FnScope N__law_met P__law_met (defScope s__law_met) := ⟨rfl, rfl, rfl, by decide +kernel, rfl, by decide +kernel, by decide +kernel⟩
abbrev a__law_met (K : PySem.W.Frag) : Addr := ga K "_law_met"
theorem f__law_met (E : TX K mg) : FunD K "_law_met" "_law_met" (defArgs s__law_met) (defBody s__law_met) (defScope s__law_met) [] [] (a__law_met K) (fdOf K (a__law_met K)) := E.def_ 69 (d := d__law_met) rfl
theorem b__law_met (E : TX K mg) : Binds K (fdOf K (a__law_met K)) P__law_met [] := (f__law_met E).bindsN fun _ _ _ _ _ _ us hl => match us, hl with | [_, _], _ => rfl
theorem g__law_met (E : TX K mg) : mg "_law_met" = some (.ref (a__law_met K)) := E.glo 44 rfl
theorem k__law_met (E : TX K mg) : PySem.W.keepIn K (.ref (a__law_met K)) = true := (f__law_met E).kp
abbrev N__law_open : List Str := ["_law_needs_here", "_law_placed", "_law_found", "_law_spot"]
abbrev P__law_open : List Str := ["_law_needs_here", "_law_placed"]
theorem sc__law_open : FnScope N__law_open P__law_open (defScope s__law_open) := ⟨rfl, rfl, rfl, by decide +kernel, rfl, by decide +kernel, by decide +kernel⟩
abbrev a__law_open (K : PySem.W.Frag) : Addr := ga K "_law_open"
theorem f__law_open (E : TX K mg) : FunD K "_law_open" "_law_open" (defArgs s__law_open) (defBody s__law_open) (defScope s__law_open) [] [] (a__law_open K) (fdOf K (a__law_open K)) := E.def_ 70 (d := d__law_open) rfl
theorem b__law_open (E : TX K mg) : Binds K (fdOf K (a__law_open K)) P__law_open [] := (f__law_open E).bindsN fun _ _ _ _ _ _ us hl => match us, hl with | [_, _], _ => rfl
theorem g__law_open (E : TX K mg) : mg "_law_open" = some (.ref (a__law_open K)) := E.glo 45 rfl
theorem k__law_open (E : TX K mg) : PySem.W.keepIn K (.ref (a__law_open K)) = true := (f__law_open E).kp
abbrev N__law_walk : List Str := ["_law_needs_here", "_law_picks", "_law_placed", "_law_k", "_law_found"]
abbrev P__law_walk : List Str := ["_law_needs_here", "_law_picks"]
theorem sc__law_walk : FnScope N__law_walk P__law_walk (defScope s__law_walk) := ⟨rfl, rfl, rfl, by decide +kernel, rfl, by decide +kernel, by decide +kernel⟩
abbrev a__law_walk (K : PySem.W.Frag) : Addr := ga K "_law_walk"
theorem f__law_walk (E : TX K mg) : FunD K "_law_walk" "_law_walk" (defArgs s__law_walk) (defBody s__law_walk) (defScope s__law_walk) [] [] (a__law_walk K) (fdOf K (a__law_walk K)) := E.def_ 71 (d := d__law_walk) rfl
theorem b__law_walk (E : TX K mg) : Binds K (fdOf K (a__law_walk K)) P__law_walk [] := (f__law_walk E).bindsN fun _ _ _ _ _ _ us hl => match us, hl with | [_, _], _ => rfl
theorem g__law_walk (E : TX K mg) : mg "_law_walk" = some (.ref (a__law_walk K)) := E.glo 46 rfl
theorem k__law_walk (E : TX K mg) : PySem.W.keepIn K (.ref (a__law_walk K)) = true := (f__law_walk E).kp
abbrev N__law_table_of : List Str := ["_law_script", "_law_sort", "_law_head", "_law_m", "_law_n", "_law_grid_here"]
abbrev P__law_table_of : List Str := ["_law_script", "_law_sort", "_law_head"]
theorem sc__law_table_of : FnScope N__law_table_of P__law_table_of (defScope s__law_table_of) := ⟨rfl, rfl, rfl, by decide +kernel, rfl, by decide +kernel, by decide +kernel⟩
abbrev a__law_table_of (K : PySem.W.Frag) : Addr := ga K "_law_table_of"
theorem f__law_table_of (E : TX K mg) : FunD K "_law_table_of" "_law_table_of" (defArgs s__law_table_of) (defBody s__law_table_of) (defScope s__law_table_of) [] [] (a__law_table_of K) (fdOf K (a__law_table_of K)) := E.def_ 72 (d := d__law_table_of) rfl
theorem b__law_table_of (E : TX K mg) : Binds K (fdOf K (a__law_table_of K)) P__law_table_of [] := (f__law_table_of E).bindsN fun _ _ _ _ _ _ us hl => match us, hl with | [_, _, _], _ => rfl
theorem g__law_table_of (E : TX K mg) : mg "_law_table_of" = some (.ref (a__law_table_of K)) := E.glo 47 rfl
theorem k__law_table_of (E : TX K mg) : PySem.W.keepIn K (.ref (a__law_table_of K)) = true := (f__law_table_of E).kp
abbrev N__law_fitting : List Str := ["_law_script", "_law_spot", "_law_grid_here", "_law_sort", "_law_size", "_law_m", "_law_n", "_law_drawn", "_law_stocks", "_law_wishes", "_law_k", "_law_cell_here", "_law_rest"]
abbrev P__law_fitting : List Str := ["_law_script", "_law_spot", "_law_grid_here", "_law_sort", "_law_size"]
theorem sc__law_fitting : FnScope N__law_fitting P__law_fitting (defScope s__law_fitting) := ⟨rfl, rfl, rfl, by decide +kernel, rfl, by decide +kernel, by decide +kernel⟩
abbrev a__law_fitting (K : PySem.W.Frag) : Addr := ga K "_law_fitting"
theorem f__law_fitting (E : TX K mg) : FunD K "_law_fitting" "_law_fitting" (defArgs s__law_fitting) (defBody s__law_fitting) (defScope s__law_fitting) [] [] (a__law_fitting K) (fdOf K (a__law_fitting K)) := E.def_ 73 (d := d__law_fitting) rfl
theorem b__law_fitting (E : TX K mg) : Binds K (fdOf K (a__law_fitting K)) P__law_fitting [] := (f__law_fitting E).bindsN fun _ _ _ _ _ _ us hl => match us, hl with | [_, _, _, _, _], _ => rfl
theorem g__law_fitting (E : TX K mg) : mg "_law_fitting" = some (.ref (a__law_fitting K)) := E.glo 48 rfl
theorem k__law_fitting (E : TX K mg) : PySem.W.keepIn K (.ref (a__law_fitting K)) = true := (f__law_fitting E).kp
abbrev N__law_serve : List Str := ["_law_listed", "_law_stocks", "_law_wishes", "_law_left", "_law_lack", "_law_moved", "_law_i", "_law_j", "_law_amount"]
abbrev P__law_serve : List Str := ["_law_listed", "_law_stocks", "_law_wishes"]
theorem sc__law_serve : FnScope N__law_serve P__law_serve (defScope s__law_serve) := ⟨rfl, rfl, rfl, by decide +kernel, rfl, by decide +kernel, by decide +kernel⟩
abbrev a__law_serve (K : PySem.W.Frag) : Addr := ga K "_law_serve"
theorem f__law_serve (E : TX K mg) : FunD K "_law_serve" "_law_serve" (defArgs s__law_serve) (defBody s__law_serve) (defScope s__law_serve) [] [] (a__law_serve K) (fdOf K (a__law_serve K)) := E.def_ 74 (d := d__law_serve) rfl
theorem b__law_serve (E : TX K mg) : Binds K (fdOf K (a__law_serve K)) P__law_serve [] := (f__law_serve E).bindsN fun _ _ _ _ _ _ us hl => match us, hl with | [_, _, _], _ => rfl
theorem g__law_serve (E : TX K mg) : mg "_law_serve" = some (.ref (a__law_serve K)) := E.glo 49 rfl
theorem k__law_serve (E : TX K mg) : PySem.W.keepIn K (.ref (a__law_serve K)) = true := (f__law_serve E).kp
abbrev N__law_ways : List Str := ["_law_order", "_law_steps", "_law_ways_here", "_law_step"]
abbrev P__law_ways : List Str := ["_law_order", "_law_steps"]
theorem sc__law_ways : FnScope N__law_ways P__law_ways (defScope s__law_ways) := ⟨rfl, rfl, rfl, by decide +kernel, rfl, by decide +kernel, by decide +kernel⟩
abbrev a__law_ways (K : PySem.W.Frag) : Addr := ga K "_law_ways"
theorem f__law_ways (E : TX K mg) : FunD K "_law_ways" "_law_ways" (defArgs s__law_ways) (defBody s__law_ways) (defScope s__law_ways) [] [] (a__law_ways K) (fdOf K (a__law_ways K)) := E.def_ 75 (d := d__law_ways) rfl
theorem b__law_ways (E : TX K mg) : Binds K (fdOf K (a__law_ways K)) P__law_ways [] := (f__law_ways E).bindsN fun _ _ _ _ _ _ us hl => match us, hl with | [_, _], _ => rfl
theorem g__law_ways (E : TX K mg) : mg "_law_ways" = some (.ref (a__law_ways K)) := E.glo 50 rfl
theorem k__law_ways (E : TX K mg) : PySem.W.keepIn K (.ref (a__law_ways K)) = true := (f__law_ways E).kp
abbrev N__law_cost_of : List Str := ["_law_grid_here", "_law_moved", "_law_spot"]
abbrev P__law_cost_of : List Str := ["_law_grid_here", "_law_moved"]
theorem sc__law_cost_of : FnScope N__law_cost_of P__law_cost_of (defScope s__law_cost_of) := ⟨rfl, rfl, rfl, by decide +kernel, rfl, by decide +kernel, by decide +kernel⟩
abbrev a__law_cost_of (K : PySem.W.Frag) : Addr := ga K "_law_cost_of"
theorem f__law_cost_of (E : TX K mg) : FunD K "_law_cost_of" "_law_cost_of" (defArgs s__law_cost_of) (defBody s__law_cost_of) (defScope s__law_cost_of) [] [] (a__law_cost_of K) (fdOf K (a__law_cost_of K)) := E.def_ 76 (d := d__law_cost_of) rfl
theorem b__law_cost_of (E : TX K mg) : Binds K (fdOf K (a__law_cost_of K)) P__law_cost_of [] := (f__law_cost_of E).bindsN fun _ _ _ _ _ _ us hl => match us, hl with | [_, _], _ => rfl
theorem g__law_cost_of (E : TX K mg) : mg "_law_cost_of" = some (.ref (a__law_cost_of K)) := E.glo 51 rfl
theorem k__law_cost_of (E : TX K mg) : PySem.W.keepIn K (.ref (a__law_cost_of K)) = true := (f__law_cost_of E).kp
abbrev N__law_keeps : List Str := ["_law_table", "_law_grid_here", "_law_ways_here", "_law_steps", "_law_stocks", "_law_wishes", "_law_amounts", "_law_due", "_law_full", "_law_before", "_law_k", "_law_order", "_law_listed", "_law_moved", "_law_serving", "_law_told", "_law_spot", "_law_one", "_law_two"]
abbrev P__law_keeps : List Str := ["_law_table", "_law_grid_here", "_law_ways_here", "_law_steps", "_law_stocks", "_law_wishes"]
theorem sc__law_keeps : FnScope N__law_keeps P__law_keeps (defScope s__law_keeps) := ⟨rfl, rfl, rfl, by decide +kernel, rfl, by decide +kernel, by decide +kernel⟩
abbrev a__law_keeps (K : PySem.W.Frag) : Addr := ga K "_law_keeps"
theorem f__law_keeps (E : TX K mg) : FunD K "_law_keeps" "_law_keeps" (defArgs s__law_keeps) (defBody s__law_keeps) (defScope s__law_keeps) [] [] (a__law_keeps K) (fdOf K (a__law_keeps K)) := E.def_ 77 (d := d__law_keeps) rfl
theorem b__law_keeps (E : TX K mg) : Binds K (fdOf K (a__law_keeps K)) P__law_keeps [] := (f__law_keeps E).bindsN fun _ _ _ _ _ _ us hl => match us, hl with | [_, _, _, _, _, _], _ => rfl
theorem g__law_keeps (E : TX K mg) : mg "_law_keeps" = some (.ref (a__law_keeps K)) := E.glo 52 rfl
theorem k__law_keeps (E : TX K mg) : PySem.W.keepIn K (.ref (a__law_keeps K)) = true := (f__law_keeps E).kp
abbrev N_law : List Str := ["_law_script", "_law_head", "_law_sort", "_law_grid_here", "_law_needs_here", "_law_one", "_law_two", "_law_table", "_law_steps", "_law_ways_here", "_law_spot", "_law_size", "_law_stocks", "_law_wishes"]
abbrev P_law : List Str := ["_law_script"]
theorem sc_law : FnScope N_law P_law (defScope s_law) := ⟨rfl, rfl, rfl, by decide +kernel, rfl, by decide +kernel, by decide +kernel⟩
abbrev a_law (K : PySem.W.Frag) : Addr := ga K "law"
theorem f_law (E : TX K mg) : FunD K "law" "law" (defArgs s_law) (defBody s_law) (defScope s_law) [] [] (a_law K) (fdOf K (a_law K)) := E.def_ 78 (d := d_law) rfl
theorem b_law (E : TX K mg) : Binds K (fdOf K (a_law K)) P_law [] := (f_law E).bindsN fun _ _ _ _ _ _ us hl => match us, hl with | [_], _ => rfl
theorem g_law (E : TX K mg) : mg "law" = some (.ref (a_law K)) := E.glo 53 rfl
theorem k_law (E : TX K mg) : PySem.W.keepIn K (.ref (a_law K)) = true := (f_law E).kp
abbrev c_Order (K : PySem.W.Frag) : Addr := ga K "Order"
theorem g_Order (E : TX K mg) : mg "Order" = some (.ref (c_Order K)) := E.glo 54 rfl
theorem cl_Order (E : TX K mg) : Cls K (c_Order K) := cls_ok (E.sd.fact 55 (f := .cls "Order") rfl)
theorem mk_Order (E : TX K mg) : Mk K (c_Order K) (a_Order__init__ K) := mkr_ok (E.sd.fact 56 (f := .mkr "Order") rfl)
abbrev c_Amounts (K : PySem.W.Frag) : Addr := ga K "Amounts"
theorem g_Amounts (E : TX K mg) : mg "Amounts" = some (.ref (c_Amounts K)) := E.glo 57 rfl
theorem cl_Amounts (E : TX K mg) : Cls K (c_Amounts K) := cls_ok (E.sd.fact 58 (f := .cls "Amounts") rfl)
theorem mk_Amounts (E : TX K mg) : Mk K (c_Amounts K) (a_Amounts__init__ K) := mkr_ok (E.sd.fact 59 (f := .mkr "Amounts") rfl)
abbrev c_Serving (K : PySem.W.Frag) : Addr := ga K "Serving"
theorem g_Serving (E : TX K mg) : mg "Serving" = some (.ref (c_Serving K)) := E.glo 60 rfl
theorem cl_Serving (E : TX K mg) : Cls K (c_Serving K) := cls_ok (E.sd.fact 61 (f := .cls "Serving") rfl)
theorem mk_Serving (E : TX K mg) : Mk K (c_Serving K) (a_Serving__init__ K) := mkr_ok (E.sd.fact 62 (f := .mkr "Serving") rfl)
abbrev c_Server (K : PySem.W.Frag) : Addr := ga K "Server"
theorem g_Server (E : TX K mg) : mg "Server" = some (.ref (c_Server K)) := E.glo 63 rfl
theorem cl_Server (E : TX K mg) : Cls K (c_Server K) := cls_ok (E.sd.fact 64 (f := .cls "Server") rfl)
theorem mk_Server (E : TX K mg) : Mk K (c_Server K) (a_Server__init__ K) := mkr_ok (E.sd.fact 65 (f := .mkr "Server") rfl)
abbrev c_Table (K : PySem.W.Frag) : Addr := ga K "Table"
theorem g_Table (E : TX K mg) : mg "Table" = some (.ref (c_Table K)) := E.glo 66 rfl
theorem cl_Table (E : TX K mg) : Cls K (c_Table K) := cls_ok (E.sd.fact 67 (f := .cls "Table") rfl)
theorem mk_Table (E : TX K mg) : Mk K (c_Table K) (a_Table__init__ K) := mkr_ok (E.sd.fact 68 (f := .mkr "Table") rfl)
theorem na_Order_listed (E : TX K mg) : NoAttr K (c_Order K) "listed" := noat_ok (E.sd.fact 89 (f := .noat "Order" "listed") rfl)
theorem na_Order_spots (E : TX K mg) : NoAttr K (c_Order K) "spots" := noat_ok (E.sd.fact 90 (f := .noat "Order" "spots") rfl)
theorem na_Amounts_stock_list (E : TX K mg) : NoAttr K (c_Amounts K) "stock_list" := noat_ok (E.sd.fact 91 (f := .noat "Amounts" "stock_list") rfl)
theorem na_Amounts_wish_list (E : TX K mg) : NoAttr K (c_Amounts K) "wish_list" := noat_ok (E.sd.fact 92 (f := .noat "Amounts" "wish_list") rfl)
theorem na_Serving_held_table (E : TX K mg) : NoAttr K (c_Serving K) "held_table" := noat_ok (E.sd.fact 93 (f := .noat "Serving" "held_table") rfl)
theorem na_Serving_held_amounts (E : TX K mg) : NoAttr K (c_Serving K) "held_amounts" := noat_ok (E.sd.fact 94 (f := .noat "Serving" "held_amounts") rfl)
theorem na_Serving_served (E : TX K mg) : NoAttr K (c_Serving K) "served" := noat_ok (E.sd.fact 95 (f := .noat "Serving" "served") rfl)
theorem na_Server_held_table (E : TX K mg) : NoAttr K (c_Server K) "held_table" := noat_ok (E.sd.fact 96 (f := .noat "Server" "held_table") rfl)
theorem na_Server_held_order (E : TX K mg) : NoAttr K (c_Server K) "held_order" := noat_ok (E.sd.fact 97 (f := .noat "Server" "held_order") rfl)
theorem na_Table_grid (E : TX K mg) : NoAttr K (c_Table K) "grid" := noat_ok (E.sd.fact 98 (f := .noat "Table" "grid") rfl)
theorem fr_len (E : TX K mg) : mg "len" = none := E.free 99 rfl
theorem fr_isinstance (E : TX K mg) : mg "isinstance" = none := E.free 100 rfl
theorem fr_int (E : TX K mg) : mg "int" = none := E.free 101 rfl
theorem fr_bool (E : TX K mg) : mg "bool" = none := E.free 102 rfl
theorem fr_str (E : TX K mg) : mg "str" = none := E.free 103 rfl
theorem fr_list (E : TX K mg) : mg "list" = none := E.free 104 rfl
theorem fr_tuple (E : TX K mg) : mg "tuple" = none := E.free 105 rfl
theorem fr_range (E : TX K mg) : mg "range" = none := E.free 106 rfl
theorem fr_enumerate (E : TX K mg) : mg "enumerate" = none := E.free 107 rfl
theorem fr_zip (E : TX K mg) : mg "zip" = none := E.free 108 rfl
theorem fr_sum (E : TX K mg) : mg "sum" = none := E.free 109 rfl
theorem fr_max (E : TX K mg) : mg "max" = none := E.free 110 rfl
theorem gi_LONGEST (E : TX K mg) : ∃ t, mg "LONGEST" = some (.int 64 t) := E.int 111 rfl
theorem gi_GREATEST (E : TX K mg) : ∃ t, mg "GREATEST" = some (.int 7 t) := E.int 112 rfl
theorem gi_LARGEST (E : TX K mg) : ∃ t, mg "LARGEST" = some (.int 8 t) := E.int 113 rfl
theorem gi_MOST (E : TX K mg) : ∃ t, mg "MOST" = some (.int 8 t) := E.int 114 rfl
theorem g_KINDS (E : TX K mg) : mg "KINDS" = some (.ref (ga K "KINDS")) := E.glo 115 rfl
end
end K78
end
section
set_option Elab.async false
set_option linter.all false
set_option maxRecDepth 100000
set_option maxHeartbeats 4000000
namespace K78
open PySem PySem.Spec PyProof.Rows L2
/-! ### own special methods -/
section
variable {X : Cx} {k : Nat} {f C : Addr} {fd : FuncData} {ps : List Str} {sp : Sp}
/-- an instance as it stands -/
theorem inst_at {pins : List (Addr × Obj)} {σ : L2.St} {H : Hp} {s : Shared} {a dx : Addr} {fs : List (Str × V)} (I : Inv X pins σ H s) (e : H a = some (.ins C dx fs)) : ∃ od, PySem.W.InstAt s.heap a (PySem.W.instObj C dx) C (some od) := by
  obtain ⟨mA, O, _⟩ := ins_get I.hok e
  obtain ⟨od, J, _⟩ := O.look
  exact ⟨od, J⟩
/-- what an own special method gives -/
def rOwn (C : Addr) (sp : Sp) (g : Bool → V) : R2 := fun x y H Q => ∃ a dx fs, y = .ref a ∧ H a = some (.ins C dx fs) ∧ sp [.ref a, x] H (fun v H' => ∃ b, v = .bl b ∧ Q (g b) H') E0
theorem op_inOwn (hm : Meth X.K C "__contains__" f) (F : FnOk X.prog X.w X.K X.mg X.base CX0 k f fd ps sp) (hr : Room k X.A) (hb : Binds X.K fd ps []) : OpR X (compareOp .In) (rOwn C sp .bl) := by
  intro pins s σ H x y v u Q I rx ry h
  obtain ⟨a, dx, fs, rfl, e, q⟩ := h
  cases ry
  obtain ⟨od, J⟩ := inst_at I e
  obtain ⟨m, Fm⟩ := I.fr
  refine PySem.W.in_K Fm I.ok.mod.kin J hm.at_ hm.fn ?_
  refine thn (run_fn (us := [.ref a, v]) (vs := [.ref a, x]) F hr hb .nil pass0 I (.cons rfl (.cons rx .nil)) q) fun r s' ⟨z, H', I', rz, b, ez, q'⟩ => ?_
  subst ez
  cases rz
  exact wpAny_truthy_bool ⟨.bl b, H', I', rfl, q'⟩
theorem op_notInOwn (hm : Meth X.K C "__contains__" f) (F : FnOk X.prog X.w X.K X.mg X.base CX0 k f fd ps sp) (hr : Room k X.A) (hb : Binds X.K fd ps []) : OpR X (compareOp .NotIn) (rOwn C sp fun b => .bl (!b)) := by
  intro pins s σ H x y v u Q I rx ry h
  obtain ⟨a, dx, fs, rfl, e, q⟩ := h
  cases ry
  obtain ⟨od, J⟩ := inst_at I e
  obtain ⟨m, Fm⟩ := I.fr
  refine PySem.W.notIn_K Fm I.ok.mod.kin J hm.at_ hm.fn ?_
  refine thn (run_fn (us := [.ref a, v]) (vs := [.ref a, x]) F hr hb .nil pass0 I (.cons rfl (.cons rx .nil)) q) fun r s' ⟨z, H', I', rz, b, ez, q'⟩ => ?_
  subst ez
  cases rz
  exact wpAny_truthy_bool ⟨.bl (!b), H', I', rfl, q'⟩
/-- the callee one unit deeper -/
theorem run_in1 {pins : List (Addr × Obj)} {σ : L2.St} {H : Hp} {s : Shared} {Q : VK} {us : List Value} {vs : List V} (F : FnOk X.prog X.w X.K X.mg X.base CX0 k f fd ps sp) (hr : Room (k + 1) X.A) (hb : Binds X.K fd ps [])
    (I : Inv X pins σ H s) (r : Vals vs us) (h : sp vs H Q E0) {E : Value → Shared → Prop} : wpAny (model X.prog X.w) X.A.in1 (call (.ref f) us) (EP X pins σ Q) E s := by
  have hl : us.length = ps.length := by rw [← r.length]; exact F.len _ _ _ _ h
  have hb' := hb s us I.kIn (by rw [List.append_nil]; exact hl)
  rw [List.append_nil] at hb'
  refine wpAny_call (codeAny_mono (F.run X.A.in1 X.stack s H ⟨us, []⟩ us vs Q E0 hr.in1 I.env0.in1 hb' r h) fun r s' hq => ?_)
  cases r with
  | error e => exact False.elim hq
  | ok fl =>
    cases fl with
    | ret u => exact I.after hq
    | next => exact False.elim hq
    | brk => exact False.elim hq
    | cont => exact False.elim hq
/-- o[y] -/
def tGetOwn (C : Addr) (sp : Sp) (ta tb : TE) : TE := fun σ H Q => ta σ H fun x H1 => tb σ H1 fun y H2 => ∃ a dx fs, x = .ref a ∧ H2 a = some (.ins C dx fs) ∧ sp [.ref a, y] H2 Q E0
theorem pe_getOwn {a b : Expr} {ta tb : TE} {pos : Pos} (hf : PySem.W.fnIn X.K f = true) (hm : Meth X.K C "__getitem__" f) (F : FnOk X.prog X.w X.K X.mg X.base CX0 k f fd ps sp) (hr : Room (k + 1) X.A) (hb : Binds X.K fd ps []) (ha : PE X a ta) (hi : PE X b tb)
    (hs : ∀ o i, subscripted b true o i = runValue (.builtin "lifetime.subscript" ⟨[o, i], []⟩) := by intro _ _; rfl) : PE X (.Subscript a b pos) (tGetOwn C sp ta tb) := by
  refine ⟨fun pins s σ H Q I h => ?_⟩
  refine Subscript_ (binT ha hi I h fun v u s2 x y H2 I2 rx ry q => ?_)
  obtain ⟨p, dx, fs, rfl, e, q⟩ := q
  cases rx
  obtain ⟨od, J⟩ := inst_at I2 e
  obtain ⟨m, Fm⟩ := I2.fr
  exact PySem.W.sub_K Fm I2.ok.mod.kin J hm.at_ hf hm.fn (run_in1 (us := [.ref p, u]) (vs := [.ref p, y]) F hr hb I2 (.cons rfl (.cons ry .nil)) q) (hs _ _)
/-- len(o) -/
def rLenOwn (C : Addr) (sp : Sp) : List V → Hp → VK → Prop := fun xs H Q => ∃ a dx fs, xs = [.ref a] ∧ H a = some (.ins C dx fs) ∧ sp [.ref a] H (fun v H' => ∃ n : Nat, v = .int (n : Int) ∧ n < 2 ^ 62 ∧ Q (.int (n : Int)) H') E0
theorem call_lenOwn (hm : Meth X.K C "__len__" f) (F : FnOk X.prog X.w X.K X.mg X.base CX0 k f fd ps sp) (hr : Room (k + 1) X.A) (hb : Binds X.K fd ps []) : CallR X (.builtin "len") (rLenOwn C sp) := by
  intro pins s σ H xs us Q I r h
  obtain ⟨a, dx, fs, rfl, e, q⟩ := h
  obtain ⟨u, rfl, rx⟩ := vals1 r
  cases rx
  obtain ⟨od, J⟩ := inst_at I e
  obtain ⟨m, Fm⟩ := I.fr
  refine PySem.W.len_K Fm I.ok.mod.kin J hm.at_ hm.fn (thn (run_in1 (us := [.ref a]) (vs := [.ref a]) F hr hb I (.cons rfl .nil) q) fun r s' ⟨z, H', I', rz, n, ez, hn, q'⟩ => ?_)
  subst ez
  obtain ⟨t, rfl⟩ := rz
  refine ⟨⟨by omega, by omega⟩, ?_⟩
  exact ⟨.int (n : Int), H', I'.tok _, ⟨_, rfl⟩, q'⟩
end
/-! ### lists by place -/
theorem ixN_at {n j : Nat} (h : j < n) : ixN n (j : Int) = some j := by
  unfold ixN
  rw [if_pos (by omega), if_pos (by omega), Int.toNat_natCast]
section
variable {X : Cx}
def rIxN (K : PySem.W.Frag) : V → V → Hp → VK → Prop := fun x y H Q => ∃ (p : Addr) (xs : List V) (j : Nat) (v : V), x = .ref p ∧ y = .int (j : Int) ∧ SqL K H p xs ∧ xs[j]? = some v ∧ Q v H
theorem get_list : PGet X (rIxN X.K) := by
  intro pins s σ H o i ov iv Q I ro ri h
  obtain ⟨p, xs, j, v, rfl, rfl, hq, hx, q⟩ := h
  cases ro
  obtain ⟨t, rfl⟩ := ri
  obtain ⟨its, r, pl, hz⟩ := I.list hq
  obtain ⟨u, hu, ru⟩ := r.get hx
  have hj : j < xs.length := (List.getElem?_eq_some_iff.mp hx).1
  rw [sizeLine_eq] at hz
  exact wpAny_getItem_list pl.isList (by omega) (by omega) (x := u) (by simpa using hu) ⟨v, H, I, ru, q⟩
/-- o[j] = v -/
def rSetN : TSet := fun o i v H Q => ∃ (p : Addr) (xs : List V) (j : Nat), o = .ref p ∧ i = .int (j : Int) ∧ H p = some (.lst xs) ∧ j < xs.length ∧ Q (upd H p (.lst (xs.set j v)))
theorem set_listN : PSet X rSetN := by
  intro pins s σ H o i v ov iv u Q I ro ri rv h
  obtain ⟨p, xs, j, rfl, rfl, hp, hj, q⟩ := h
  have hz : xs.length ≤ sizeLine := (show ObjOk X.prog X.w H s.heap p (.lst xs) from I.hok p _ hp).1
  exact set_list pins s σ H _ _ v ov iv u Q I ro ri rv ⟨p, xs, _, j, rfl, rfl, hp, ixN_at hj, q⟩
end
/-! ### dicts whose keys are tuples: del, != -/
section
variable {X : Cx} {pins : List (Addr × Obj)} {σ : L2.St} {H : Hp} {s : Shared}
theorem dt_del {a b : Addr} {kvs : List (List Key × V)} {k : List Key} {E : Value → Shared → Prop} {Q : Unit → Shared → Prop} (hu : X.A.units + 1 < cLine) (I : Inv X pins σ H s) (e : H a = some (.dT kvs)) (eb : H b = some (.tup (k.map kV)))
    (l : (valV kvs k).isSome = true) (h : ∀ s', Inv X pins σ (upd H a (.dT (dropK kvs k))) s' → Q () s') : wpAny (model X.prog X.w) X.A (delItem (.ref a) (.ref b)) Q E s := by
  obtain ⟨z, hd, xs, rel, dd⟩ := dt_of I.hok e
  have r := rel.val k
  obtain ⟨v0, ev⟩ := Option.isSome_iff_exists.mp l
  rw [ev] at r
  obtain ⟨p, hp, _⟩ : ∃ p, atKey xs k = some p ∧ RelV v0 p.2 := by
    cases q : atKey xs k with
    | none => rw [q] at r; exact (show False from r).elim
    | some p => rw [q] at r; exact ⟨p, rfl, r⟩
  refine wpAny_delItem_heap (tupleKind_room_in1 hu) (key_of I.hok eb) hd dd hp (fun h' dd' hs => h _ ?_) (by rw [← Paired.length rel]; exact z)
  obtain ⟨o, es, ep, hq, h2, h3, h4, _, h5⟩ := dd'
  refine d_write I (by rw [e]; exact True.intro) hs ⟨o, hq⟩ ⟨Nat.le_trans (dropK_le kvs k) z, hd, _, (L2.DX.KT_drop k rel).keeps fun c ys ec => ?_, o, es, ep, hq, h2, h3, h4, h5⟩
  rw [upd_ne (ne_of ec e fun z => nomatch z)]
  exact ec
def sDelT (td ty : TE) : TS := fun D σ H => td σ H fun x H1 => ty σ H1 fun y H2 => ∃ a b kvs k, x = .ref a ∧ y = .ref b ∧ H2 a = some (.dT kvs) ∧ H2 b = some (.tup (k.map kV)) ∧ (valV kvs k).isSome = true ∧ D.nx σ (upd H2 a (.dT (dropK kvs k)))
theorem ps_delT {o i : Expr} {td ty : TE} {pos tpos : Pos} (hu : X.A.units + 1 < cLine) (ho : PE X o td) (hi : PE X i ty) : PS X (.Delete [.Subscript o i tpos] pos) (sDelT td ty) := by
  refine ⟨fun pins s σ H D I h => ?_⟩
  refine wpAny_Delete (wpAny_deleteEach_cons (wpAny_delete_Subscript (thn (ho.run pins s σ H _ I h) fun u s1 ⟨x, H1, I1, rx, q1⟩ => thn (hi.run pins s1 σ H1 _ I1 q1) fun iv s2 ⟨y, H2, I2, ry, q2⟩ => ?_)))
  obtain ⟨a, b, kvs, k, rfl, rfl, e, eb, l, q2⟩ := q2
  cases rx
  cases ry
  exact dt_del hu I2 e eb l fun s3 I3 => wpAny_deleteEach_nil ⟨σ, _, I3, q2⟩
end
section
variable {P : Program} {w : World} {κ : Type} [DecidableEq κ] {hk : HeapKind P w κ} {A : Around} {E : Value → Shared → Prop} {s : Shared}
def intOf : Value → Int
  | .int i _ => i
  | _ => 0
/-- the same key holds the same int there -/
def hit (xb : List (κ × Addr × Value)) (x : κ × Addr × Value) : Bool := match atKey xb x.1 with
  | some p => intOf x.2.2 == intOf p.2
  | none => false
theorem pairs_alike {nm : String} {a b : Addr} {xa xb : List (κ × Addr × Value)} {Q : Bool → Shared → Prop} (ha : (a == sysModules) = false) (hb : (b == sysModules) = false) (hu : hk.room A)
    (da : s.heap.DictOfH hk a xa) (db : s.heap.DictOfH hk b xb) (va : ∀ x ∈ xa, ∃ i t, x.2.2 = Value.int i t) (vb : ∀ x ∈ xb, ∃ i t, x.2.2 = Value.int i t)
    (h : Q (xa.length == xb.length && xa.all (hit xb)) s) : wpAny (model P w) A (Builtin.Dict.samePairs nm a b) Q E s := by
  obtain ⟨o1, e1, p1, g1, _, d1, l1, k1, n1⟩ := da
  obtain ⟨o2, e2, p2, g2, _, d2, l2, k2, n2⟩ := db
  have z1 : e1.size = xa.length := size_of_entries l1
  have z2 : e2.size = xb.length := size_of_entries l2
  unfold Builtin.Dict.samePairs Builtin.Dict.showsAll
  simp only [ha, hb, Bool.false_eq_true, if_false]
  refine wpAny_bind (wpAny_pure ?_)
  refine wpAny_bind (wpAny_pure ?_)
  refine wpAny_bind (wpAny_dictEntries g1 d1 ?_)
  refine wpAny_bind (wpAny_dictEntries g2 d2 ?_)
  rw [z1, z2]
  by_cases hz : xa.length = xb.length
  case neg =>
    have hb0 : (xa.length == xb.length) = false := beq_eq_false_iff_ne.mpr hz
    rw [hb0, Bool.false_and] at h
    rw [if_pos (by rw [bne, hb0]; rfl)]
    exact wpAny_bind (wpAny_rule (wpAny_pure h))
  have hb1 : (xa.length == xb.length) = true := beq_iff_eq.mpr hz
  rw [hb1, Bool.true_and] at h
  rw [if_neg (by rw [bne, hb1]; decide)]
  refine wpAny_bind (wpAny_dictEpoch g1 d1 (wpAny_bind ?_))
  rw [Std.Legacy.Range.forIn_eq_forIn_range']
  simp only [Std.Legacy.Range.size, Nat.sub_zero, Nat.add_sub_cancel, Nat.div_one]
  refine wpAny_forIn_list _ (fun rest q s' => s' = s ∧ q = (none, ()) ∧ ∃ i, rest = List.range' i (xa.length - i) ∧ i ≤ xa.length ∧ (xa.all (hit xb)) = ((xa.drop i).all (hit xb))) _ ?_ ?_ _ _ ⟨rfl, rfl, 0, by simp, Nat.zero_le _, by simp⟩
  · rintro x rest q s' ⟨rfl, rfl, i, hr, hi, hall⟩
    have hlt : i < xa.length := by
      rcases Nat.lt_or_ge i xa.length with y | y
      · exact y
      · rw [Nat.sub_eq_zero_of_le y] at hr; cases hr
    have hrr : xa.length - i = (xa.length - (i + 1)) + 1 := by omega
    rw [hrr, List.range'_succ] at hr
    obtain ⟨rfl, hrest⟩ := List.cons.inj hr
    obtain ⟨⟨key, ad, val⟩, hx⟩ : ∃ t, xa[x]? = some t := ⟨xa[x], List.getElem?_eq_getElem hlt⟩
    have mx : (key, ad, val) ∈ xa := List.mem_of_getElem? hx
    obtain ⟨iv, tv, ev⟩ := va _ mx
    have ev : val = Value.int iv tv := ev
    subst ev
    have he1 : e1[x]? = some (entryOfKey hk (key, ad, Value.int iv tv)) := by rw [entry_at l1 x, hx]; rfl
    refine wpAny_bind (wpAny_dictEntries g1 d1 ?_)
    rw [he1]
    have hdr : xa.drop x = (key, ad, Value.int iv tv) :: xa.drop (x + 1) := by
      rw [List.drop_eq_getElem_cons hlt]
      rw [List.getElem?_eq_getElem hlt] at hx
      rw [Option.some.inj hx]
    rw [hdr, List.all_cons] at hall
    show wpAny _ _ (holding _ _ >>= _) _ _ _
    refine wpAny_bind (wpAny_holding (wpAny_bind (wpAny_dictFind_heap hu (k1 _ mx) g2 d2 l2 k2 n2 (fun hno => ?_) fun j p hj => ?_)))
    · have hf : hit xb (key, ad, Value.int iv tv) = false := by
        unfold hit
        rw [show atKey xb (key, ad, Value.int iv tv).1 = none from atKey_none_of_get hno]
      rw [hf, Bool.false_and] at hall
      rw [hall] at h
      refine wpAny_pure ?_
      show wpAny _ _ (if (!false) = true then _ else _) _ _ _
      rw [if_pos (by decide)]
      exact wpAny_pure (wpAny_pure h)
    · have hf : hit xb (key, ad, Value.int iv tv) = (iv == intOf p.2) := by
        unfold hit
        rw [show atKey xb (key, ad, Value.int iv tv).1 = some p from atKey_of_get n2 hj]
        rfl
      obtain ⟨jv, tj, ej⟩ := vb _ (List.mem_of_getElem? hj)
      have ej : p.2 = Value.int jv tj := ej
      have he2 : e2[j]? = some (entryOfKey hk (key, p)) := by rw [entry_at l2 j, hj]; rfl
      refine wpAny_bind (wpAny_dictEntries g2 d2 ?_)
      rw [he2]
      show wpAny _ _ (holding _ (eqBool (Value.int iv tv) p.2)) _ _ _
      rw [ej] at hf ⊢
      refine wpAny_holding (wpAny_eqBool_int ?_)
      have hf : hit xb (key, ad, Value.int iv tv) = (iv == jv) := hf
      cases hq : (iv == jv) with
      | false =>
        rw [hf, hq, Bool.false_and] at hall
        rw [hall] at h
        show wpAny _ _ (if (!false) = true then _ else _) _ _ _
        rw [if_pos (by decide)]
        exact wpAny_pure (wpAny_pure h)
      | true =>
        rw [hf, hq, Bool.true_and] at hall
        show wpAny _ _ (if (!true) = true then _ else _) _ _ _
        rw [if_neg (by decide)]
        refine wpAny_bind (wpAny_dictEpoch g1 d1 ?_)
        rw [if_neg (by simp)]
        exact wpAny_pure ⟨rfl, rfl, x + 1, hrest, hlt, hall⟩
  · rintro q s' ⟨rfl, rfl, i, hr, hi, hall⟩
    have hi2 : i = xa.length := by
      rcases Nat.lt_or_ge i xa.length with y | y
      · have e : xa.length - i = (xa.length - (i + 1)) + 1 := by omega
        rw [e, List.range'_succ] at hr
        cases hr
      · omega
    rw [hi2, List.drop_length] at hall
    rw [hall] at h
    exact wpAny_pure h
end
section
variable {X : Cx}
def intV : V → Int
  | .int i => i
  | _ => 0
/-- the second table holds at each key of the first what the first holds -/
def alike (ks ls : List (List Key × V)) : Bool := ks.length == ls.length && ks.all fun p => match valV ls p.1 with
  | some v => intV p.2 == intV v
  | none => false
theorem alike_eq {H : Hp} {ks ls : List (List Key × V)} {xa xb : List (List Key × Addr × Value)} (ra : KT H ks xa) (rb : KT H ls xb) (vk : ∀ p ∈ ks, ∃ i, p.2 = V.int i) (vl : ∀ p ∈ ls, ∃ i, p.2 = V.int i) :
    (∀ x ∈ xa, ∃ i t, x.2.2 = Value.int i t) ∧ (xa.length == xb.length && xa.all (hit xb)) = alike ks ls := by
  have vals : ∀ {ms : List (List Key × V)} {xs : List (List Key × Addr × Value)}, KT H ms xs → (∀ p ∈ ms, ∃ i, p.2 = V.int i) → ∀ x ∈ xs, ∃ i t, x.2.2 = Value.int i t := by
    intro ms xs r
    induction r with
    | nil => intro _ x hx; cases hx
    | @cons p q l1 l2 f t ih =>
      intro hv x hx
      rcases List.mem_cons.mp hx with e | hx
      · obtain ⟨i, ei⟩ := hv p List.mem_cons_self
        have f3 := f.2.2
        rw [ei] at f3
        obtain ⟨t, et⟩ := f3
        exact ⟨i, t, by rw [e]; exact et⟩
      · exact ih (fun y hy => hv y (List.mem_cons_of_mem _ hy)) x hx
  refine ⟨vals ra vk, ?_⟩
  unfold alike
  rw [← Paired.length ra, ← Paired.length rb]
  congr 1
  have vb := vals rb vl
  clear vals
  induction ra with
  | nil => rfl
  | @cons p q l1 l2 f t ih =>
    rw [List.all_cons, List.all_cons, ih fun y hy => vk y (List.mem_cons_of_mem _ hy)]
    congr 1
    obtain ⟨i, ei⟩ := vk p List.mem_cons_self
    obtain ⟨f1, _, f3⟩ := f
    rw [ei] at f3
    obtain ⟨t, et⟩ := f3
    unfold hit
    have r := rb.val p.1
    rw [← f1]
    cases e1 : atKey xb p.1 with
    | none =>
      rw [e1] at r
      cases e2 : valV ls p.1 with
      | none => rfl
      | some v => rw [e2] at r; exact (show False from r).elim
    | some y =>
      rw [e1] at r
      cases e2 : valV ls p.1 with
      | none => rw [e2] at r; exact (show False from r).elim
      | some v =>
        rw [e2] at r
        have r : RelV v y.2 := r
        have hv : ∃ i, v = V.int i := by
          unfold valV at e2
          obtain ⟨z, hz, ez⟩ := Option.map_eq_some_iff.mp e2
          rw [← ez]
          exact vl z (List.mem_of_find?_eq_some hz)
        obtain ⟨j, ej⟩ := hv
        rw [ej] at r
        obtain ⟨tj, etj⟩ := r
        show (intOf q.2.2 == intOf y.2) = (intV p.2 == intV v)
        rw [et, etj, ei, ej]
        rfl
def rNeT : R2 := fun x y H Q => ∃ a b ks ls, x = .ref a ∧ y = .ref b ∧ H a = some (.dT ks) ∧ H b = some (.dT ls) ∧ (∀ p ∈ ks, ∃ i, p.2 = V.int i) ∧ (∀ p ∈ ls, ∃ i, p.2 = V.int i) ∧ Q (.bl (!alike ks ls)) H
theorem op_neT (hu : X.A.units + 1 < cLine) : OpR X (compareOp .NotEq) rNeT := by
  intro pins s σ H x y v u Q I rx ry h
  obtain ⟨a, b, ks, ls, rfl, rfl, ea, eb, vk, vl, q⟩ := h
  cases rx
  cases ry
  obtain ⟨_, ya, xa, ra, da⟩ := dt_of I.hok ea
  obtain ⟨_, yb, xb, rb, db⟩ := dt_of I.hok eb
  obtain ⟨va, hq⟩ := alike_eq ra rb vk vl
  obtain ⟨vb, _⟩ := alike_eq rb ra vl vk
  refine wpAny_richCompare_same_room (op := .NotEq) da.typeIs db.typeIs PySem.F.slot_dict_ne (wpAny_call_entry PySem.F.slot_dict_ne da.typeIs PySem.F.entry_dict_ne ?_ (PySem.F.args_dict_ne_2 _ _)) (Nat.lt_of_succ_lt hu)
  show wpAny _ _ (Builtin.Dict.dictSlotArgs "__ne__" ⟨[.ref a, .ref b], []⟩ >>= _) _ _ s
  unfold Builtin.Dict.dictSlotArgs
  refine wpAny_bind (wpAny_bind (wpAny_notOrdered_dict da.typeIs ?_))
  show wpAny _ _ (pure (Value.ref a, Value.ref b)) _ _ s
  refine wpAny_pure (wpAny_bind (wpAny_isInstance (T := "dict") db.typeIs PySem.F.sub_dict_dict ?_))
  simp only [Bool.not_true, Bool.false_eq_true, if_false]
  refine wpAny_bind (wpAny_pure (wpAny_bind (wpAny_pure (wpAny_bind (pairs_alike ya yb (tupleKind_room_in1 (knd := mixKind X.prog X.w) hu) da db va vb ?_)))))
  rw [hq]
  exact wpAny_pure ⟨_, rfl, (fun z => nomatch z), fin_bl I q (by simp)⟩
end
end K78
end
section
set_option Elab.async false
set_option linter.all false
set_option maxRecDepth 100000
set_option maxHeartbeats 4000000
namespace K78
open PySem PySem.Spec PyProof.Rows L2
section
variable {X : Cx}
/-- a new dict entry, the key a tuple -/
theorem dt_fill {pins : List (Addr × Obj)} {σ : L2.St} {H : Hp} {s : Shared} {E : Value → Shared → Prop} {D b : Addr} {kvs : List (List Key × V)} {k : List Key} {v : V} {r : Value} {Q : Unit → Shared → Prop} (hu : X.A.units + 1 < cLine) (I : Inv X pins σ H s) (hD : H D = some (.dT kvs))
    (hz : kvs.length < sizeLine) (eb : H b = some (.tup (k.map kV))) (rv : RelV v r) (h : ∀ s', Inv X pins σ (upd H D (.dT (putK kvs k v))) s' → Q () s') : wpAny (model X.prog X.w) X.A (dictSet D (.ref b) r) Q E s := by
  obtain ⟨z, hd, xs, rel, dd⟩ := dt_of I.hok hD
  have hl : (putK kvs k v).length ≤ sizeLine := by have := length_putK kvs k v; omega
  refine wpAny_dictSet_heap (knd := tupleKind (mixKind X.prog X.w)) (hsz := by rw [← Paired.length rel]; exact z) (Nat.lt_of_succ_lt hu) (key_of I.hok eb) dd fun h' dd' hs => h _ ?_
  obtain ⟨q, es, ep, hq, h2, h3, h4, _, h5⟩ := dd'
  refine d_write I (by rw [hD]; exact True.intro) hs ⟨q, hq⟩ ⟨hl, hd, _, (rel.put k eb rv).keeps fun c ys ec => ?_, q, es, ep, hq, h2, h3, h4, h5⟩
  rw [upd_ne (ne_of ec hD fun z => nomatch z)]
  exact ec
/-- {x: e for x in ..}, the keys tuples of ints -/
def tDcT (wi : TI) (g : TG) (tk tv : TE) (vs : List Nat) : TE := fun σ H Q => wi σ H fun J H1 => ∀ D, H1 D = none → ∃ W : Nat → Nat → Hp → Prop, (∃ m, W 0 m (upd H1 D (.dT []))) ∧ ∀ i m H, W i m H →
  (J.stop i H ∧ Q (.ref D) H) ∨ (J.go i H ∧ ∃ Nx : Hp → Prop, (∀ H', Nx H' → ∃ m', m' < m ∧ W (i + 1) m' H') ∧ ∀ x H', J.yld i H x H' → g x (wipe σ vs) H' fun σ2 H2 => wipe σ2 vs = wipe σ vs ∧
    tk σ2 H2 fun y H4 => tv σ2 H4 fun z H5 => ∃ b kvs k, y = .ref b ∧ H5 b = some (.tup (k.map kV)) ∧ H5 D = some (.dT kvs) ∧ kvs.length < sizeLine ∧ Nx (upd H5 D (.dT (putK kvs k z))))
theorem dc_core {pins : List (Addr × Obj)} {s : Shared} {σ : L2.St} {H : Hp} {Q : VK} {kx vx tg iter : Expr} {scope : Scope} {own : List (Str × Nat)} {pos pos' : Pos} {wi : TI} {g : TG} {tk tv : TE} {use : Option (Value → Sem Unit)} {Qf : Value → Shared → Prop} (hu : X.A.units + 1 < cLine) (hc : X.calm = true) (hN : X.N.Nodup) (I : Inv X pins σ H s) (hi : PI X tg iter wi) (ok : BlkOk X.N X.env.scope scope own)
    (hg : ∀ (s : Shared) (H : Hp) (C : Addr) (cl : List (Str × Addr)) (fp : List Addr), PG (X.blk s H scope (compEnvC scope cl C X.env) fp) tg g)
    (hk : ∀ (s : Shared) (H : Hp) (C : Addr) (cl : List (Str × Addr)) (fp : List Addr), PE (X.blk s H scope (compEnvC scope cl C X.env) fp) kx tk)
    (he : ∀ (s : Shared) (H : Hp) (C : Addr) (cl : List (Str × Addr)) (fp : List Addr), PE (X.blk s H scope (compEnvC scope cl C X.env) fp) vx tv) (hs : ∀ x, foldedSetIterable iter X.env x = pure x)
    (h : tDcT wi g tk tv (own.map (·.2)) σ H Q)
    (hRR : ∀ D C s' m H', Inv X pins σ H' s' → Q (.ref D) H' → s'.heap.Ns C m → FpOk X pins H' C → compPost (model X.prog X.w) X.A X.xe use Qf (.ref D) C (.ok .next) s') :
    wpAny (model X.prog X.w) X.A (comprehension (.DictComp kx vx [⟨tg, iter, [], 0⟩] scope pos) scope X.env pos' newDict false (eval iter X.env) use) Qf X.xe s := by
  have cells : ∀ y ∈ scope.names, y.2 = .free → ∃ c, X.env.cells.lookup y.1 = some c := fun y hy e => (ok.free y hy e).elim (fun k => I.ok.has _ (.inl k)) fun k => I.ok.has _ (.inr k)
  refine wpAny_comprehension_free (use := use) rfl hs (closure_ok cells) ok.kind (fun y hy e => by rw [ok.uniq y hy, e]) (thn (hi.run pins s σ H _ I h) fun xv s1 hx => thn hx fun itv s2 h2 => ?_)
  obtain ⟨it, fp, tn, J, H2, rfl, I2, T, st2, f2, q⟩ := h2
  refine wpAny_newObj_type (newEnv_comp ?_)
  obtain ⟨D, hD⟩ : ∃ D, s2.heap.objs.size = D := ⟨_, rfl⟩
  rw [hD]
  obtain ⟨W, ⟨m0, w0⟩, turn⟩ := q D (I2.hok.fresh (Nat.le_of_eq hD))
  obtain ⟨s3, hs3⟩ : ∃ s3 : Shared, ({ s2 with heap := s2.heap.push { cls := .type "dict", data := .dict #[] } } : Shared) = s3 := ⟨_, rfl⟩
  have h3 : s3.heap = s2.heap.push { cls := .type "dict", data := .dict #[] } := by rw [← hs3]
  obtain ⟨H3, hH3⟩ : ∃ H3 : Hp, upd H2 D (.dT []) = H3 := ⟨_, rfl⟩
  rw [hH3] at w0
  have I3 : Inv X pins σ H3 s3 := by
    rw [← hs3, ← hH3]
    refine I2.laid (t' := s2.toks) (fun b o e => Heap.get?_push_of_some _ e) (Nat.le_of_eq hD) ?_
    rw [← hD]
    exact dt_empty s2.heap I2.big
  have small : ∀ b ∈ fp, b < s2.heap.objs.size := fun b hb => let ⟨o, e, _⟩ := T.obj _ _ st2 b hb; Heap.lt_size e
  have f3 : ∀ b ∈ fp, FpOk X pins H3 b ∧ b < s3.heap.objs.size := fun b hb => by
    refine ⟨⟨?_, (f2 b hb).2⟩, by rw [h3, Heap.size_push]; exact Nat.lt_succ_of_lt (small b hb)⟩
    rw [← hH3, upd_ne (by rw [← hD]; exact Nat.ne_of_lt (small b hb))]
    exact (f2 b hb).1
  have st3 : tn 0 s3.heap := T.keep _ _ _ st2 fun b _ o e => by rw [h3]; exact Heap.get?_push_of_some _ e
  have I4 := block_start I3 ok hN f3
  rw [hs3]
  obtain ⟨ce, hce⟩ : ∃ ce, compEnvC scope (cellsFrom (s3.heap.objs.size + 1) scope.names (cloFrom X.env.cells scope.names [])) s3.heap.objs.size X.env = ce := ⟨_, rfl⟩
  have pg := hg s3 H3 s3.heap.objs.size (cellsFrom (s3.heap.objs.size + 1) scope.names (cloFrom X.env.cells scope.names [])) fp
  have pk := hk s3 H3 s3.heap.objs.size (cellsFrom (s3.heap.objs.size + 1) scope.names (cloFrom X.env.cells scope.names [])) fp
  have pe := he s3 H3 s3.heap.objs.size (cellsFrom (s3.heap.objs.size + 1) scope.names (cloFrom X.env.cells scope.names [])) fp
  rw [hce] at I4 pg pk pe
  have cL : ce.locals = s3.heap.objs.size := by rw [← hce]; rfl
  obtain ⟨s4, hs4⟩ : ∃ s4 : Shared, ({ s3 with heap := pushCells (s3.heap.push { cls := .type "dict", data := .dict #[] }) scope.names } : Shared) = s4 := ⟨_, rfl⟩
  rw [hs4] at I4
  have st4 : tn 0 s4.heap := T.keep _ _ _ st3 fun b _ o e => by rw [← hs4]; exact pushCells_keeps _ _ _ _ (Heap.get?_push_of_some _ e)
  have fpB : ∀ {σ' : L2.St} {H' : Hp} {s' : Shared}, Inv (X.blk s3 H3 scope ce fp) [] σ' H' s' → (∀ b ∈ fp, H' b = none) → ∀ b ∈ fp, FpOk (X.blk s3 H3 scope ce fp) [] H' b := fun {σ' H' s'} I' hn b hb =>
    ⟨hn b hb, (I'.ok.exf b hb).1, I'.ok.exfs b hb, .inl hb, fun x c e => (I'.ok.exf b hb).2 x c e, fun p hp => nomatch (show p ∈ ([] : List (Addr × Obj)) from hp)⟩
  have loop : codeAny (model X.prog X.w) X.A (.compLoop (.DictComp kx vx [⟨tg, iter, [], 0⟩] scope pos) 0 (.ref it) (.ref D) ce) (compPost (model X.prog X.w) X.A X.xe use Qf (.ref D) s3.heap.objs.size) s4 := by
    refine compLoop_anyD (fun n s' => ∃ i H', Inv (X.blk s3 H3 scope ce fp) [] (wipe σ (own.map (·.2))) H' s' ∧ tn i s'.heap ∧ (∀ b ∈ fp, H' b = none) ∧ W i n H') ?_ m0 ⟨0, H3, I4, st4, fun b hb => (f3 b hb).1.1, w0⟩
    rintro n s5 ⟨i, H5, I5, st5, n5, w5⟩
    rcases turn i n H5 w5 with ⟨stop, qq⟩ | ⟨go, Nx, hNx, step⟩
    · refine thnF (T.done (X.blk s3 H3 scope ce fp) rfl rfl rfl hc i [] s5 _ H5 (fun _ _ => False) I5 (fpB I5 n5) st5 stop) fun r s6 ⟨hr, I6⟩ => ?_
      subst hr
      have I7 : Inv X pins σ H5 s6 := I3.call' (ch := fp) I6.os I6.base I6.hok I6.bare fun b hb => let ⟨_, y2, _, y4, y5, y6⟩ := (f3 b hb).1; ⟨y4, y2, y5, y6⟩
      have nC : H5 s3.heap.objs.size = none := by rw [← cL]; exact I6.free
      obtain ⟨m, hn, _⟩ := I6.loc
      have hn : s6.heap.Ns s3.heap.objs.size m := by rw [← cL]; exact hn
      exact hRR D _ s6 m H5 I7 qq hn (I3.fpOk (Nat.le_refl _) nC)
    · refine thnF (T.item (X.blk s3 H3 scope ce fp) rfl rfl rfl hc i [] s5 _ H5 (fun _ _ => False) I5 (fpB I5 n5) st5 go) fun r s6 ⟨u, hr, h6⟩ => ?_
      subst hr
      refine thnF h6 fun _ s7 ⟨x, H7, I7, r7, y7, st7, n7⟩ => ?_
      refine thnF (pg.run _ s7 _ H7 x u _ (I7.pinned (fpB I7 n7) (T.obj _ _ st7)) r7 (step x H7 y7)) fun _ s8 ⟨σ8, H8, I8, hw8, q8⟩ => ?_
      refine wpAny_pure ?_
      show wpAny _ _ (eval kx ce) _ _ _
      refine thnF (pk.run _ s8 σ8 H8 _ I8 q8) fun z s10 ⟨yk, H10, I10, r10, q10⟩ => ?_
      refine thnF (pe.run _ s10 σ8 H10 _ I10 q10) fun z2 s11 ⟨yv, H11, I11, r11, b, kvs, k, ek, eb, hD11, hz11, nx⟩ => ?_
      subst ek
      cases r10
      refine dt_fill (X := X.blk s3 H3 scope ce fp) hu I11 hD11 hz11 eb r11 fun s12 I12 => ?_
      obtain ⟨m', hm, w'⟩ := hNx _ nx
      have pin : ∀ b ∈ fp, ∀ o, s7.heap.get? b = some o → s12.heap.get? b = some o ∧ upd H11 D (.dT (putK kvs k yv)) b = none := fun b hb o e =>
        let y := I12.pin (b, o) (List.mem_append_right _ (List.mem_append_right _ (mem_pinsAt hb e)))
        ⟨y.1, y.2.1⟩
      refine ⟨m', hm, i + 1, _, (I12.unpinned (pins := [])).weak (by rw [← hw8, wipe_length]) (fun j v e => ?_), T.keep _ _ _ st7 fun b hb o e => (pin b hb o e).1, fun b hb => ?_, w'⟩
      · rw [← hw8] at e
        exact (wipe_some e).1
      · obtain ⟨o, e, _⟩ := T.obj _ _ st7 b hb
        exact (pin b hb o e).2
  show codeAny _ _ (.compStart (.DictComp kx vx [⟨tg, iter, [], 0⟩] scope pos) 0 (.ref it) (.ref D) (compEnvC scope (cellsFrom (s3.heap.objs.size + 1) scope.names (cloFrom X.env.cells scope.names [])) s3.heap.objs.size X.env)) (compPost (model X.prog X.w) X.A X.xe use Qf (.ref D) s3.heap.objs.size) { s3 with heap := pushCells (s3.heap.push { cls := .type "dict", data := .dict #[] }) scope.names }
  rw [hce, hs4]
  exact codeAny_compStart_dict loop (T.self X.A 0 _ _ _ st4 loop)
theorem pe_dcT {kx vx tg iter : Expr} {scope : Scope} {own : List (Str × Nat)} {pos : Pos} {wi : TI} {g : TG} {tk tv : TE} (hu : X.A.units + 1 < cLine) (hc : X.calm = true) (hN : X.N.Nodup) (hi : PI X tg iter wi) (ok : BlkOk X.N X.env.scope scope own)
    (hg : ∀ (s : Shared) (H : Hp) (C : Addr) (cl : List (Str × Addr)) (fp : List Addr), PG (X.blk s H scope (compEnvC scope cl C X.env) fp) tg g)
    (hk : ∀ (s : Shared) (H : Hp) (C : Addr) (cl : List (Str × Addr)) (fp : List Addr), PE (X.blk s H scope (compEnvC scope cl C X.env) fp) kx tk)
    (he : ∀ (s : Shared) (H : Hp) (C : Addr) (cl : List (Str × Addr)) (fp : List Addr), PE (X.blk s H scope (compEnvC scope cl C X.env) fp) vx tv) (hs : ∀ x, foldedSetIterable iter X.env x = pure x := by intro _; rfl) :
    PE X (.DictComp kx vx [⟨tg, iter, [], 0⟩] scope pos) (tDcT wi g tk tv (own.map (·.2))) := by
  refine ⟨fun pins s σ H Q I h => ?_⟩
  rw [arm_eval_DictComp]
  refine dc_core hu hc hN I hi ok hg hk he hs h fun D C s' m H' I' q hn f => ⟨m, hn, fun h'' sb => ?_⟩
  obtain ⟨f0, f1, f2, f3, f4, f5⟩ := f
  exact ⟨.ref D, H', I'.turned (t' := s'.toks) (fun b o hb e => (sb.2 b hb).trans e) f0 f1 f3 f4 f5, rfl, q⟩
theorem sw_trueD {kx vx : Expr} {gs : List Comprehension} {scope : Scope} {pos py : Pos} {y : Str} {l : Nat} {env : Env} (hk : env.scope.kind = .function) (hy : env.scope.names.lookup y = some .local) (hl : (py.line == pos.line) = true)
    (ha : (scope.names.any fun (n, k) => n == y && (k == .local || k == .cell)) = false) : swapsWith (.DictComp kx vx gs scope pos) (some (.Name y py)) l env = pure true := by
  have ky : env.kindOf y = some .local := hy
  have hb : env.blockKind = .function := by unfold Env.blockKind; rw [hk]; rfl
  unfold swapsWith
  simp only [hb, ky, ha, Expr.pos, hl]
  rfl
/-- name = {..} on one line, the name a local -/
theorem ps_setDcT {i : Nat} {y : Str} {py : Pos} {kx vx tg iter : Expr} {scope : Scope} {own : List (Str × Nat)} {pos spos : Pos} {wi : TI} {g : TG} {tk tv : TE} (hu : X.A.units + 1 < cLine) (hc : X.calm = true) (hN : X.N.Nodup) (hy : X.N[i]? = some y) (hyl : X.env.scope.names.lookup y = some .local)
    (hsw : swapsWith (.DictComp kx vx [⟨tg, iter, [], 0⟩] scope pos) (some (.Name y py)) spos.line X.env = pure true) (hi : PI X tg iter wi) (ok : BlkOk X.N X.env.scope scope own)
    (hg : ∀ (s : Shared) (H : Hp) (C : Addr) (cl : List (Str × Addr)) (fp : List Addr), PG (X.blk s H scope (compEnvC scope cl C X.env) fp) tg g)
    (hk : ∀ (s : Shared) (H : Hp) (C : Addr) (cl : List (Str × Addr)) (fp : List Addr), PE (X.blk s H scope (compEnvC scope cl C X.env) fp) kx tk)
    (he : ∀ (s : Shared) (H : Hp) (C : Addr) (cl : List (Str × Addr)) (fp : List Addr), PE (X.blk s H scope (compEnvC scope cl C X.env) fp) vx tv) (hs : ∀ x, foldedSetIterable iter X.env x = pure x := by intro _; rfl) :
    PS X (.Assign [.Name y py] (.DictComp kx vx [⟨tg, iter, [], 0⟩] scope pos) spos) (tAsg (tDcT wi g tk tv (own.map (·.2))) (gName i)) := by
  refine ⟨fun pins s σ H D I h => ?_⟩
  rw [exec_Assign_Name_used _ _ _ _ hsw]
  refine wpAny_bind (wpAny_standAt (wpAny_bind ?_))
  show wpAny _ X.A (do let _ ← comprehension (.DictComp kx vx [⟨tg, iter, [], 0⟩] scope pos) scope X.env (firstIterPos [⟨tg, iter, [], 0⟩] pos) newDict false (eval iter X.env) (some (assign (.Name y py) X.env))) _ _ s
  have h : tDcT wi g tk tv (own.map (·.2)) σ H (fun x H1 => gName i x σ H1 D.nx) := h
  refine wpAny_bind (thn (dc_core (Qf := fun _ s' => SP X pins D .next s') hu hc hN I hi ok hg hk he hs h fun L C s' m H' I' q hn f => ?_) fun _ s' hq => wpAny_pure (wpAny_pure hq))
  show wpAny _ _ (assign (.Name y py) X.env (.ref L)) _ _ _
  refine wpAny_assign_Name (store_ok2 (v := V.ref L) I' hN hy (.inl hyl) rfl (fun s2 I2 ⟨a, sb, ha⟩ => ?_) (.inr hyl))
  obtain ⟨f0, f1, f2, f3, f4, f5⟩ := f
  have haC : C ≠ a := by
    rcases ha with z | z
    · rw [z]; exact f1
    · exact fun e => f4 y a z e.symm
  refine ⟨m, hn.sameBut sb haC, fun h3 sb3 => ?_⟩
  exact ⟨_, H', I2.turned (t' := s2.toks) (fun b o hb e => (sb3.2 b hb).trans e) f0 f1 f3 f4 f5, q⟩
end
end K78
end
section
set_option Elab.async false
set_option linter.all false
set_option maxRecDepth 100000
set_option maxHeartbeats 4000000
namespace K78
open PySem PySem.Spec PyProof.Rows L2 GenW
/-! ### a generator just made -/
structure GNew (P : Program) (w : World) (K : PySem.W.Frag) (mg : Str → Option Value) (base : Heap) (N : List Str) (qual : Str) (scope : Scope) (body : List Stmt) (f : Addr) (cdv : Value) (outer : List Env) (s : Shared) (H : Hp) (vs : List V) (u : Value) (s' : Shared)
    (go : Obj) (s1 : Shared) : Prop where
  val : u = .ref s1.heap.objs.size
  gen : ∃ nm qn, go.cls = .type "generator" ∧ go.data = .fields #[.int s1.gens.size 0, nm, qn] ∧ go.slots = #[]
  heap : s'.heap = s1.heap.push go
  at_ : (s1.heap.push go).get? s1.heap.objs.size = some go
  gens : s'.gens = s1.gens.push (.fresh (.func body (envOfC qual scope s.heap.objs.size f cdv)))
  os : s'.os = s.os
  bare : AllBare s1.gens
  lim : s1.heap.NoLimit
  keep : ∀ b o, s.heap.get? b = some o → s1.heap.get? b = some o
  lt : s.heap.objs.size < s1.heap.objs.size
  ok : ∀ (Aw : Around) (E : XK), Aw.handled = none → Env0 P w K mg base Aw outer s H → Inv (gcxOf P w K mg base N qual scope f cdv Aw outer s H E []) [] (start N vs) H s1
section
variable {P : Program} {w : World} {K : PySem.W.Frag} {mg : Str → Option Value} {base : Heap} {N ps : List Str}
theorem gen_made {A : Around} {outer : List Env} {s : Shared} {H : Hp} {k : Nat} {f : Addr} {name qual : Str} {params : Arguments} {body : List Stmt} {scope : Scope} {dV kV doc pm cdv ct oc : Value} {an od : Option Addr} {osl : Array (Option Value)} {args : Args} {us : List Value} {vs : List V}
    (lk : K.lookup f = some ⟨oc, od, .func (PySem.W.fnOf name qual params body scope dV kV doc pm an cdv ct), osl⟩) (hcd : PySem.W.codeIn K cdv qual = true) (S : GScope N ps scope) (hr : Room k A) (e0 : Env0 P w K mg base A outer s H)
    (hb : BindsTo s (PySem.W.fnOf name qual params body scope dV kV doc pm an cdv ct) args (ps.zip us)) (r : Vals vs us) (hl : vs.length = ps.length) :
    codeAny (model P w) A (.call (.ref f) args) (fun r s' => ∃ u go s1, r = .ok (.ret u) ∧ GNew P w K mg base N qual scope body f cdv outer s H vs u s' go s1) s := by
  have kin : K.In s.heap := e0.mod.kin.keeps fun b o e => (e0.bs b o e).1
  have lim : s.heap.NoLimit := e0.mod.nolimit.keeps fun b o e => (e0.bs b o e).1
  have kinds : ∀ y ∈ ps.zip us, scope.names.lookup y.1 = some .local ∨ (scope.names.lookup y.1 = some .cell ∧ ((cellsFrom (s.heap.objs.size + 1) scope.names []).lookup y.1).isSome = true) := fun ⟨n, v⟩ hy =>
    (S.par n (List.of_mem_zip hy).1).elim .inl fun q => .inr ⟨q, PySem.W.cellsFrom_some _ _ _ (.inl q)⟩
  refine codeAny_call_generator hr.depth (kin _ _ lk) rfl S.co S.gen rfl (PySem.W.codeRec_of kin hcd) (hb _ _ _ _ ?_)
  refine wpAny_newFunctionEnv_cells S.kind kinds fun env he s1 x => ?_
  subst he
  refine ⟨lim.keeps x.toInCall.keep, ?_⟩
  obtain ⟨h1, tk, es, _⟩ := x.done
  have main : ∀ (go : Obj) (nm qn : Value) (t2 : Nat), go.cls = .type "generator" → go.data = .fields #[.int s1.gens.size 0, nm, qn] → go.slots = #[] → (∀ h : Heap, (h.push go).get? h.objs.size = some go) →
      ∃ u go' s1', (Except.ok (Flow.ret (Value.ref s1.heap.objs.size)) : Result) = .ok (.ret u) ∧
        GNew P w K mg base N qual scope body f cdv outer s H vs u { s1 with gens := s1.gens.push (.fresh (.func body (envOfC qual scope s.heap.objs.size f cdv))), toks := t2, heap := s1.heap.push go } go' s1' := fun go nm qn t2 g1 g2 g3 g4 =>
    ⟨_, go, s1, rfl, rfl, ⟨nm, qn, g1, g2, g3⟩, rfl, g4 _, rfl, by show s1.os = s.os; rw [es], by rw [show s1.gens = s.gens by rw [es]]; exact e0.bare, lim.keeps x.toInCall.keep, x.toInCall.keep, x.toInCall.ns.lt,
      fun Aw E hh e0w => inv_startG S hh e0w hl r x⟩
  exact main _ _ _ _ rfl rfl rfl fun h => Heap.get?_push_size _ rfl
/-- a generator def that hands out nothing: the arguments, the heap, what is wanted behind its run -/
abbrev SpG0 := List V → Hp → (Hp → Prop) → Prop
def REnd0 (P : Program) (w : World) (outer : List Env) (H : Hp) (s : Shared) (Q : Hp → Prop) : GenEnd := fun _ _ r s1 =>
  ((r = .ok (.ret .none) ∨ r = .ok .next) ∧ ∃ H', s1.os = s.os ∧ AllBare s1.gens ∧ Un (frs outer) [] H H' s.heap s1.heap ∧ HOk P w H' s1.heap ∧ Q H') ∨ ∃ e, r = .error e ∧ False
def NoY : Protocol := fun _ _ _ _ _ => False
def GRun0 (P : Program) (w : World) (k : Nat) (outer : List Env) (H : Hp) (s : Shared) (Q : Hp → Prop) (u : Value) (s' : Shared) : Prop :=
  ∃ (a : Addr) (g : Nat) (c : Code), u = .ref a ∧ s'.heap.IsGen a g ∧ s'.gens[g]? = some (.fresh c) ∧ s'.os = s.os ∧ AllBare s'.gens ∧ s'.heap.NoLimit ∧ (∀ b o, s.heap.get? b = some o → s'.heap.get? b = some o) ∧
    ∀ (A : Around) (s2 : Shared), Room k A → A.frames = some outer → (∀ b o, s'.heap.get? b = some o → s2.heap.get? b = some o) → s2.os = s.os → AllBare s2.gens → Seg (model P w) A (REnd0 P w outer H s Q) NoY 0 s2 c ((model P w).den c) [] s2
structure GFn0 (P : Program) (w : World) (K : PySem.W.Frag) (mg : Str → Option Value) (base : Heap) (k : Nat) (f : Addr) (fd : FuncData) (ps : List Str) (sp : SpG0) : Prop where
  len : ∀ vs H Q, sp vs H Q → vs.length = ps.length
  run : ∀ (A : Around) (outer : List Env) (s : Shared) (H : Hp) (args : Args) (us : List Value) (vs : List V) (Q : Hp → Prop), Room k A → Env0 P w K mg base A outer s H → BindsTo s fd args (ps.zip us) → Vals vs us → sp vs H Q →
    codeAny (model P w) A (.call (.ref f) args) (fun r s' => ∃ u, r = .ok (.ret u) ∧ GRun0 P w k outer H s Q u s') s
theorem gfn0_of {x qual : Str} {st : Stmt} {dvs : List V} {kws : List (Str × V)} {f : Addr} {fd : FuncData} {k : Nat} {sp : SpG0} (F : FunD K x qual (defArgs st) (defBody st) (defScope st) dvs kws f fd) (S : GScope N ps (defScope st)) (len : ∀ vs H Q, sp vs H Q → vs.length = ps.length)
    (hbody : ∀ (cdv : Value) (A : Around) (outer : List Env) (s : Shared) (H : Hp) (vs : List V) (Q : Hp → Prop), Room k (A.deeper (envOfC qual (defScope st) s.heap.objs.size f cdv)) → sp vs H Q →
      ∃ t, PSs (gcxOf P w K mg base N qual (defScope st) f cdv A outer s H E0 []).nox (defBody st) t ∧ t { nx := fun _ H' => Q H', rt := fun v H' => v = .non ∧ Q H' } (start N vs) H) : GFn0 P w K mg base (k + 1) f fd ps sp := by
  obtain ⟨oc, od, dV, kV, doc, pm, an, cdv, ct, osl, rfl, lk, hcd, _, _⟩ := F.ex
  refine ⟨len, fun A outer s H args us vs Q hr e0 hb r hsp => ?_⟩
  refine codeAny_mono (gen_made lk hcd S hr e0 hb r (len _ _ _ hsp)) fun r s' h => ?_
  obtain ⟨u, go, s1, er, G⟩ := h
  have hgen : s'.heap.IsGen s1.heap.objs.size s1.gens.size := by
    obtain ⟨nm, qn, g1, g2, g3⟩ := G.gen
    exact ⟨go, nm, qn, by rw [G.heap]; exact G.at_, g1, g2, g3⟩
  have kp : ∀ b o, s1.heap.get? b = some o → s'.heap.get? b = some o := fun b o e => by rw [G.heap]; exact Heap.get?_push_of_some _ e
  refine ⟨u, er, s1.heap.objs.size, s1.gens.size, _, G.val, hgen, by rw [G.gens]; exact Array.getElem?_push_size .., G.os, by rw [G.gens]; exact AllBare.push G.bare rfl, G.lim.keeps kp, fun b o e => kp b o (G.keep b o e), fun Aw s2 hrw hfr hk2 hos hba => ?_⟩
  have e0w : Env0 P w K mg base Aw outer s H := ⟨hfr, e0.mod, e0.bs, e0.bsz, e0.funs, e0.frf, e0.hok, e0.bare⟩
  have I1 := G.ok Aw E0 hrw.hd e0w
  have kp2 : ∀ b o, s1.heap.get? b = some o → s2.heap.get? b = some o := fun b o e => hk2 b o (kp b o e)
  have I2 := I1.call' (ch := []) (hos.trans (show s1.os = s.os from I1.os).symm) (Un.kept kp2) (I1.hok.kept kp2) hba fun b z => nomatch z
  obtain ⟨t, ht, hq⟩ := hbody cdv Aw outer s H vs Q (hrw.deeper _) hsp
  refine seg_func (seg_wrap ?_)
  rw [over_func]
  refine wpAny_mono (ht.run [] s2 _ H _ (I2.wish _) hq) (fun fl s3 h3 => ?_) fun _ _ z => z.elim
  have fin : ∀ {σ' : L2.St} {H' : Hp}, Inv (gcxOf P w K mg base N qual (defScope st) f cdv Aw outer s H E0 []).nox [] σ' H' s3 → Q H' → Seg (model P w) Aw (REnd0 P w outer H s Q) NoY 0 s2 (.func (defBody st) (envOfC qual (defScope st) s.heap.objs.size f cdv)) (.pure (.done (.ret .none))) [] s3 := fun I3 q3 =>
    seg_end (.ok (.ret .none)) (.inl ⟨.inl rfl, _, I3.os, I3.bare, I3.base, I3.hok, q3⟩)
  cases fl with
  | next => obtain ⟨σ', H', I3, q3⟩ := h3; exact fin I3 q3
  | brk => obtain ⟨_, _, _, q3⟩ := h3; exact q3.elim
  | cont => obtain ⟨_, _, _, q3⟩ := h3; exact q3.elim
  | ret v =>
    obtain ⟨x, σ', H', I3, rv, ev, q3⟩ := h3
    subst ev
    cases rv
    exact fin I3 q3
end
section
variable {X : Cx} {k : Nat} {f : Addr} {fd : FuncData} {ps : List Str} {sp : SpG0}
/-- for .. in f(..), f a generator that hands out nothing -/
def tForNone (sp : SpG0) (ta : TA) : TS := fun D σ H => ta σ H fun vs H1 => sp vs H1 fun H2 => D.nx σ H2
theorem ps_forNone {x : Str} {tg e : Expr} {es : List Expr} {body : List Stmt} {p cpos pos : Pos} {ta : TA} (hp : PassesOwn (model X.prog X.w) X.A X.env X.xe) (hc : X.calm = true) (F : GFn0 X.prog X.w X.K X.mg X.base k f fd ps sp) (hr : Room (k + 1) X.A) (hg : Gl X x) (hm : X.mg x = some (.ref f))
    (hk : PySem.W.keepIn X.K (.ref f) = true) (hb : Binds X.K fd ps []) (ha : PA X (e :: es) ta) (hdb : (x == ("__debug__" : Str)) = false := by decide) (he : starEach (e :: es) X.env = (false, eval e X.env) :: starEach es X.env := by rfl)
    (hpl : (backTo cpos (starEach es X.env)).any (·.1) = false := by rfl) (hs : ∀ y, foldedSetIterable (.Call (.Name x p) (e :: es) [] cpos) X.env y = pure y := by intro _; rfl) :
    PS X (.For tg (.Call (.Name x p) (e :: es) [] cpos) body [] pos) (tForNone sp ta) := by
  refine ⟨fun pins s σ H D I h => ?_⟩
  refine wpAny_For ?_ hs
  refine wpAny_Call_Name_kw (ld_glob I hg hm ?_ hdb)
  refine PySem.W.callWith_K (h₀ := X.base) I.ok.mod.kin hk (thn (ha.run cpos pins s σ H _ I h) fun us s1 ⟨vs, H1, I1, r, q⟩ => ⟨I1.kIn, ?_⟩) he hpl
  have hl : us.length = ps.length := by rw [← r.length]; exact F.len _ _ _ q
  have hb' := hb s1 us I1.kIn (by rw [List.append_nil]; exact hl)
  rw [List.append_nil] at hb'
  refine wpAny_call (codeAny_mono (F.run X.A X.stack s1 H1 ⟨us, []⟩ us vs _ (hr.mono (Nat.le_succ k)) I1.env0 hb' r q) fun r s' hq => ?_)
  obtain ⟨u, rfl, a, g, c, rfl, hgen, hgs, hos, hba, hlim, hkp, wake⟩ := hq
  refine wpAny_pyIter_gen hgen ?_
  refine codeAny_forLoop_any (fun n s2 => s2 = s') ?_ 0 rfl
  rintro n s2 rfl
  have hgl : g < s2.gens.size := (Array.getElem?_eq_some_iff.mp hgs).1
  refine wpAny_passesOwn hp ?_
  refine next_genG (F := fun _ _ s3 => ∃ H', s3.os = s1.os ∧ AllBare s3.gens ∧ Un (frs X.stack) [] H1 H' s1.heap s3.heap ∧ HOk X.prog X.w H' s3.heap ∧ D.nx σ H') (Er := fun _ _ => False) (Y := NoY) (n := 0) (I1.ok.hd hc) hlim hr.depth hgen hgs ⟨rfl, ?_⟩
    (fun v s3 gs' _ hv => hv.elim) (fun s3 h3 h' hk' => ?_) fun e s3 z => z.elim
  · exact wake X.A.in1 (s2.setGen g .running) hr.in1 I1.ok.frames (fun b o z => z) hos (allBare_setGen hba rfl)
  · obtain ⟨H', o3, b3, u3, k3, q3⟩ := h3
    have I3 : Inv X pins σ H' { s3.setGen g .finished with heap := h' } := I1.call' (ch := []) o3 (u3.trans (Un.kept hk')) (k3.kept hk') (allBare_setGen b3 rfl) fun b z => nomatch z
    exact wpAny_execs_nil ⟨σ, H', I3, q3⟩
end
end K78
end
section
set_option Elab.async false
set_option linter.all false
set_option maxRecDepth 100000
set_option maxHeartbeats 4000000
namespace K78
open PySem PySem.Spec PyProof.Rows L2 GenW
/-! ### the consumer's step, its state told whole -/
section
variable {X : Cx} {pins : List (Addr × Obj)} {σ : L2.St} {H : Hp} {s : Shared}
/-- all but the frame's own table stands -/
def Stands (X : Cx) (s s' : Shared) : Prop := s'.gens = s.gens ∧ ∀ b o, b ≠ X.env.locals → s.heap.get? b = some o → s'.heap.get? b = some o
theorem Stands.trans {s1 s2 s3 : Shared} (a : Stands X s1 s2) (b : Stands X s2 s3) : Stands X s1 s3 := ⟨b.1.trans a.1, fun c o h e => b.2 c o h (a.2 c o h e)⟩
theorem store_local {E : Value → Shared → Prop} {i : Nat} {x : Str} {v : V} {u : Value} {Q : Unit → Shared → Prop} (I : Inv X pins σ H s) (hN : X.N.Nodup) (hi : X.N[i]? = some x) (hk : X.env.scope.names.lookup x = some .local) (r : RelV v u)
    (h : ∀ s', Inv X pins (σ.set i (some v)) H s' → Stands X s s' → Q () s') : wpAny (model X.prog X.w) X.A (storeName X.env x u) Q E s := by
  obtain ⟨m, hn, hl⟩ := id I.loc
  obtain ⟨oL, _, _, hoL, _⟩ := id hn
  have hL := I.free
  have hlen : i < σ.length := by rw [I.len]; exact (List.getElem?_eq_some_iff.mp hi).1
  have old : ∀ b o, X.s_0.heap.get? b = some o → b ≠ X.env.locals := fun b o e => Nat.ne_of_lt (Nat.lt_of_lt_of_le (Heap.lt_size e) I.ok.above)
  refine wpAny_storeName_local hk hn (fun h' hn' hs => ?_) (by rw [I.ok.kind]; rfl)
  have kp : ∀ b o, b ≠ X.env.locals → s.heap.get? b = some o → h'.get? b = some o := fun b o hb e => (hs.2 b hb).trans e
  refine h _ ⟨I.ok, I.os, I.bare, ⟨fun b o e n hb hx => kp b o (old b o e) (I.base.keep b o e n hb hx), fun b o e n hb hx => ?_, I.base.free, fun b o e hx => ?_, I.base.tups, I.base.frzs, I.base.tbls⟩, ⟨_, hn', fun j y v' e1 e2 e3 => ?_⟩, fun y c e => ?_, hL, I.freeC, fun p hp => ?_, fun b ob e => ?_, by rw [List.length_set]; exact I.len⟩ ⟨rfl, kp⟩
  · obtain ⟨sl, q⟩ := I.base.slot b o e n hb hx
    exact ⟨sl, kp b _ (old b o e) q⟩
  · obtain ⟨o', q⟩ := I.base.there b o e hx
    exact ⟨o', kp b o' (old b o e) q⟩
  · by_cases hj : j = i
    · subst hj
      rw [hi] at e1
      cases e1
      rw [List.getElem?_set_self hlen] at e2
      cases e2
      exact ⟨u, r, .inl ⟨hk, if_pos rfl⟩⟩
    · rw [List.getElem?_set_ne (Ne.symm hj)] at e2
      obtain ⟨w', r', q⟩ := hl j y v' e1 e2 e3
      refine ⟨w', r', ?_⟩
      rcases q with ⟨q1, q2⟩ | ⟨q1, c, q2, q3⟩
      · exact .inl ⟨q1, (if_neg fun z : y = x => hj (nodup_ix hN e1 (by rw [z]; exact hi))).trans q2⟩
      · exact .inr ⟨q1, c, q2, q3.sameBut hs (I.cne y c q2)⟩
  · obtain ⟨w', z⟩ := I.cell y c e
    exact ⟨w', z.sameBut hs (I.cne y c e)⟩
  · obtain ⟨q1, q2, q3, q4, q5⟩ := I.pin p hp
    exact ⟨kp p.1 p.2 q3 q1, q2, q3, q4, q5⟩
  · refine (I.hok b ob e).stay (fun c w' hc q => kp c w' ?_ q) (fun _ q => q) fun _ _ q => q
    rintro rfl
    rcases hc with z | z
    · rw [← z, hL] at e; cases e
    · rw [hL] at z; cases z
/-- two names take a pair -/
theorem two_targets {E : Value → Shared → Prop} {i j : Nat} {x y : Str} {px py pos : Pos} {k : Nat} {T : Addr} {v1 v2 : V} {Q : Unit → Shared → Prop} (hc : X.calm = true) (I : Inv X pins σ H s) (hT : H T = some (.tup [v1, v2])) (hN : X.N.Nodup) (hi : X.N[i]? = some x) (hj : X.N[j]? = some y)
    (hx : X.env.scope.names.lookup x = some .local) (hy : X.env.scope.names.lookup y = some .local) (h : ∀ s', Inv X pins ((σ.set i (some v1)).set j (some v2)) H s' → Stands X s s' → Q () s') :
    wpAny (model X.prog X.w) X.A (assign (.Tuple [.Name x px, .Name y py] k pos) X.env (.ref T)) Q E s := by
  obtain ⟨_, its, rv, ht⟩ := (show ObjOk X.prog X.w H s.heap T (.tup [v1, v2]) from I.hok T _ hT)
  cases rv with
  | cons r1 rv =>
    cases rv with
    | cons r2 rv =>
      cases rv
      refine assign_Tuple_tuple (I.ok.hd hc) ht rfl rfl fun h' hx' => ?_
      have I1 : Inv X pins σ H { s with heap := h' } := I.kept (t' := s.toks) fun b o e => hx' b o (Nat.ne_of_lt (Heap.lt_size e)) e
      have st0 : Stands X s { s with heap := h' } := ⟨rfl, fun b o _ e => hx' b o (Nat.ne_of_lt (Heap.lt_size e)) e⟩
      show wpAny _ _ (assignInOrder [assign (.Name x px) X.env, assign (.Name y py) X.env] [_, _]) _ _ _
      refine assignInOrder_cons (wpAny_assign_Name (store_local I1 hN hi hx r1 fun s2 I2 st2 => ?_))
      refine assignInOrder_cons (wpAny_assign_Name (store_local I2 hN hj hy r2 fun s3 I3 st3 => ?_))
      exact assignInOrder_nil (h s3 I3 ((st0.trans st2).trans st3))
/-- a local name is read -/
theorem read_local {E : Value → Shared → Prop} {i : Nat} {x : Str} {pos : Pos} {v : V} {Q : Value → Shared → Prop} (I : Inv X pins σ H s) (hi : X.N[i]? = some x) (hk : X.env.scope.names.lookup x = some .local) (hv : σ[i]? = some (some v))
    (h : ∀ u, RelV v u → Q u s) (hd : (x == ("__debug__" : Str)) = false := by decide) : wpAny (model X.prog X.w) X.A (eval (.Name x pos) X.env) Q E s := by
  obtain ⟨m, hn, hl⟩ := I.loc
  obtain ⟨u, r, l⟩ := hl i x v hi hv (.inl hk)
  rcases l with ⟨_, hm⟩ | ⟨z, _⟩
  · exact wpAny_Name (wpAny_loadName_local I.ok.kind hk hn hm (h u r)) hd
  · exfalso
    have z : X.env.scope.names.lookup x = some .cell ∨ X.env.scope.names.lookup x = some .free := z
    rw [hk] at z
    rcases z with z | z <;> cases z
/-- d[p] = a, all three local names -/
theorem put_local {E : Value → Shared → Prop} {d p a : Nat} {xd xp xa : Str} {p1 p2 p3 pos' pos : Pos} {D b : Addr} {kvs : List (List Key × V)} {key : List Key} {v : V} {Q : Flow → Shared → Prop} (hu : X.A.units + 1 < cLine) (I : Inv X pins σ H s)
    (hd : X.N[d]? = some xd) (hp : X.N[p]? = some xp) (ha : X.N[a]? = some xa) (kd : X.env.scope.names.lookup xd = some .local) (kp : X.env.scope.names.lookup xp = some .local) (ka : X.env.scope.names.lookup xa = some .local)
    (vd : σ[d]? = some (some (.ref D))) (vp : σ[p]? = some (some (.ref b))) (va : σ[a]? = some (some v)) (hD : H D = some (.dT kvs)) (hb : H b = some (.tup (key.map kV))) (hl : kvs.length < sizeLine)
    (h : ∀ s', Inv X pins σ (upd H D (.dT (putK kvs key v))) s' → s'.gens = s.gens → (∀ c o, c ≠ D → s.heap.get? c = some o → s'.heap.get? c = some o) → Q .next s')
    (hs : swapsWith (.Name xa p3) (some (.Subscript (.Name xd p1) (.Name xp p2) pos')) pos.line X.env = pure false)
    (dd : (xd == ("__debug__" : Str)) = false := by decide) (dp : (xp == ("__debug__" : Str)) = false := by decide) (da : (xa == ("__debug__" : Str)) = false := by decide) :
    wpAny (model X.prog X.w) X.A (exec (.Assign [.Subscript (.Name xd p1) (.Name xp p2) pos'] (.Name xa p3) pos) X.env) Q E s := by
  refine wpAny_Assign_Subscript (read_local I ha ka va (fun ua ra => read_local I hd kd vd (fun ud rd => read_local I hp kp vp (fun up rp => ?_) dp) dd) da) hs
  cases rd
  cases rp
  obtain ⟨z, hsm, xs, rel, df⟩ := dt_of I.hok hD
  have hz : xs.length ≤ sizeLine := by rw [← Paired.length rel]; exact z
  have hl2 : (putK kvs key v).length ≤ sizeLine := by have := length_putK kvs key v; omega
  refine wpAny_setItem_heap (knd := tupleKind (mixKind X.prog X.w)) (hsz := hz) (tupleKind_room_in1 hu) (key_of I.hok hb) df fun h' dd' hsb => ?_
  obtain ⟨q, es, ep, hq, h2, h3, h4, _, h5⟩ := dd'
  refine h _ (d_write I (by rw [hD]; exact True.intro) hsb ⟨q, hq⟩ ⟨hl2, hsm, _, (rel.put key hb ra).keeps fun c ys ec => ?_, q, es, ep, hq, h2, h3, h4, h5⟩) rfl fun c o hc e => (hsb.2 c hc).trans e
  rw [upd_ne (ne_of ec hD fun z => nomatch z)]
  exact ec
end
/-! ### the generator's own view of the state, taken anew at each waking -/
def cut (h : Heap) (n : Nat) : Heap := { h with objs := h.objs.extract 0 n }
theorem cut_at (h : Heap) (n b : Nat) : (cut h n).objs[b]? = if b < n then h.objs[b]? else none := by
  unfold cut
  rw [Array.getElem?_extract]
  simp only [Nat.sub_zero, Nat.zero_add]
  by_cases hb : b < n
  · rw [if_pos hb]
    by_cases hz : b < h.objs.size
    · rw [if_pos (by omega)]
    · rw [if_neg (by omega), Array.getElem?_eq_none (by omega)]
  · rw [if_neg hb, if_neg (by omega)]
theorem cut_lt {h : Heap} {n : Nat} {b : Addr} (hb : b < n) : (cut h n).get? b = h.get? b := by
  unfold Heap.get?
  rw [cut_at h n b, if_pos hb]
theorem cut_ge {h : Heap} {n : Nat} {b : Addr} (hb : n ≤ b) : (cut h n).get? b = none := by
  unfold Heap.get?
  rw [cut_at h n b, if_neg (Nat.not_lt.mpr hb)]
theorem cut_some {h : Heap} {n : Nat} {b : Addr} {o : Obj} (e : (cut h n).get? b = some o) : b < n ∧ h.get? b = some o := by
  rcases Nat.lt_or_ge b n with hb | hb
  · exact ⟨hb, (cut_lt hb).symm.trans e⟩
  · rw [cut_ge hb] at e; cases e
theorem cut_size {h : Heap} {n : Nat} (hn : n ≤ h.objs.size) : (cut h n).objs.size = n := by
  unfold cut
  rw [Array.size_extract]
  omega
/-- the generator's context: made when the heap had n objects, woken at s -/
def cg (P : Program) (w : World) (K : PySem.W.Frag) (mg : Str → Option Value) (base : Heap) (N : List Str) (qual : Str) (scope : Scope) (f : Addr) (cdv : Value) (A : Around) (outer : List Env) (n : Nat) (s : Shared) (H : Hp) : Cx where
  prog := P
  w := w
  K := K
  mg := mg
  base := base
  A := A.deeper (envOfC qual scope n f cdv)
  N := N
  s_0 := { s with heap := cut s.heap n }
  H_0 := H
  env := envOfC qual scope n f cdv
  outer := outer
  stack := envOfC qual scope n f cdv :: outer
  ex := []
  fn := fun _ => true
  calm := true
  pn := []
  xe := fun _ _ => False
/-- what the generator's frame holds while it sleeps -/
def Asleep (N : List Str) (scope : Scope) (n : Nat) (σ : L2.St) (h : Heap) : Prop :=
  σ.length = N.length ∧ ∃ m, h.Ns n m ∧ ∀ (i : Nat) (x : Str) (v : V), N[i]? = some x → σ[i]? = some (some v) → scope.names.lookup x = some .local → ∃ u, RelV v u ∧ m x = some u
/-- a generator def's scope without cells -/
structure Flat (scope : Scope) : Prop where
  kind : scope.kind = .function
  all : ∀ y ∈ scope.names, y.2 ≠ .cell ∧ y.2 ≠ .free
  none : ∀ n, cellsFrom n scope.names [] = []
theorem Flat.lk {scope : Scope} (F : Flat scope) {x : Str} : scope.names.lookup x ≠ some .cell ∧ scope.names.lookup x ≠ some .free :=
  ⟨fun e => (F.all _ (PySem.mem_of_lookup e)).1 rfl, fun e => (F.all _ (PySem.mem_of_lookup e)).2 rfl⟩
theorem Flat.cells {scope : Scope} (F : Flat scope) {qual : Str} {n f : Addr} {cdv : Value} : (envOfC qual scope n f cdv).cells = [] := F.none _
section
variable {X : Cx} {pins : List (Addr × Obj)} {σ : L2.St} {H : Hp} {s : Shared} {N : List Str} {qual : Str} {scope : Scope} {f : Addr} {cdv : Value} {A : Around} {n : Nat}
theorem frames_below (I : Inv X pins σ H s) (h0 : X.s_0.heap.objs.size ≤ n) (hL : X.env.locals < n) : ∀ b ∈ frs X.stack, b < n := fun b hb => by
  rcases List.mem_cons.mp (I.stkSub b hb) with e | hb
  · rw [e]; exact hL
  · obtain ⟨_, o, ho, _⟩ := I.ok.funs.mem hb
    exact Nat.lt_of_lt_of_le (Heap.lt_size ho) h0
theorem funs_below {base h h' : Heap} : ∀ {l : List Env}, (∀ b ∈ frs l, h'.get? b = h.get? b) → h.FunFrames base l → h'.FunFrames base l
  | [], _, _ => trivial
  | env :: r, k, hl => by
    obtain ⟨hk, ⟨L, o, hf, hn, ho, hd⟩, hr⟩ := hl
    have mem : L ∈ frs (env :: r) := by unfold frs; rw [List.filterMap_cons, hf]; exact List.mem_cons_self
    have sub : ∀ b ∈ frs r, b ∈ frs (env :: r) := fun b hb => by unfold frs; rw [List.filterMap_cons, hf]; exact List.mem_cons_of_mem _ hb
    exact ⟨hk, ⟨L, o, hf, hn, (k L mem).trans ho, hd⟩, funs_below (fun b hb => k b (sub b hb)) hr⟩
/-- woken: from the consumer's state -/
theorem wake {σg : L2.St} (I : Inv X pins σ H s) (Fl : Flat scope) (hA : A.frames = some X.stack) (hh : A.handled = none) (h0 : X.s_0.heap.objs.size ≤ n) (hL : X.env.locals < n) (hn : n ≤ s.heap.objs.size) (hf : H n = none) (sl : Asleep N scope n σg s.heap) :
    Inv (cg X.prog X.w X.K X.mg X.base N qual scope f cdv A X.stack n s H) [] σg H s := by
  obtain ⟨hlen, m, hm, hv⟩ := sl
  have nocell : ∀ y c, (envOfC qual scope n f cdv).cells.lookup y = some c → False := fun y c e => by rw [Fl.cells] at e; cases e
  have low := frames_below I h0 hL
  have nB : ∀ b o, X.base.get? b = some o → b < n := fun b o e => Nat.lt_of_lt_of_le (Heap.lt_size e) (Nat.le_trans I.ok.bsz h0)
  refine ⟨⟨I.ok.mod, Fl.kind, rfl, rfl, Nat.le_of_eq (cut_size hn), fun y z c e1 e2 => (nocell y c e1).elim, fun y hy => ?_, fun y c _ e => (nocell y c e).elim, fun _ => hh, Around.frames_deeper hA, .inr ⟨rfl, rfl⟩, (fun b hb => nomatch hb), fun b o e => ?_, ?_, fun b _ _ => (fun z => nomatch z), (fun b hb => nomatch hb),
      funs_below (fun b hb => cut_lt (low b hb)) I.stack, I.stkFree⟩, rfl, I.bare,
    ⟨fun b o e _ _ _ => (cut_some e).2, fun b o e _ _ _ => ⟨o.slots, (cut_some e).2⟩, fun b o _ z _ => z, fun b o e _ => ⟨o, (cut_some e).2⟩, fun b xs e => e, fun b o u e => e, fun b ps e => ⟨#[], by rw [Array.append_empty]; exact e⟩⟩,
    ⟨m, hm, fun i x v e1 e2 e3 => ?_⟩, fun y c e => (nocell y c e).elim, hf, fun y c e => (nocell y c e).elim, (fun p hp => nomatch hp), I.hok, hlen⟩
  · have hy' : scope.names.lookup y = some .cell ∨ scope.names.lookup y = some .free := hy
    rcases hy' with e | e
    · exact (Fl.lk.1 e).elim
    · exact (Fl.lk.2 e).elim
  · obtain ⟨e1, e2⟩ := I.bs b o e
    exact ⟨(cut_lt (nB b o e)).trans e1, e2⟩
  · show X.base.objs.size ≤ (cut s.heap n).objs.size
    rw [cut_size hn]
    exact Nat.le_trans I.ok.bsz h0
  · have hk : scope.names.lookup x = some .local := by
      have e3' : Vis scope x := e3
      rcases e3' with e | e | e
      · exact e
      · exact (Fl.lk.1 e).elim
      · exact (Fl.lk.2 e).elim
    obtain ⟨u, r, hu⟩ := hv i x v e1 e2 hk
    exact ⟨u, r, .inl ⟨hk, hu⟩⟩
/-- the addresses from n on -/
def young (n : Nat) (h : Heap) : List Addr := (List.range h.objs.size).filter fun b => decide (n ≤ b)
theorem mem_young {n : Nat} {h : Heap} {b : Addr} : b ∈ young n h ↔ b < h.objs.size ∧ n ≤ b := by
  unfold young
  rw [List.mem_filter, List.mem_range, decide_eq_true_iff]
/-- back to the consumer: it finds its own as it was -/
theorem handed {σg : L2.St} {pg : List (Addr × Obj)} {H1 : Hp} {s1 : Shared} (I : Inv X pins σ H s) (h0 : X.s_0.heap.objs.size ≤ n) (hL : X.env.locals < n) (hc : ∀ y c, X.env.cells.lookup y = some c → c < n) (hp : ∀ p ∈ X.pn ++ pins, p.1 < n)
    (G : Inv (cg X.prog X.w X.K X.mg X.base N qual scope f cdv A X.stack n s H) pg σg H1 s1) : Inv X pins σ H1 s1 := by
  have old : ∀ b o, s.heap.get? b = some o → b ∉ young n s.heap → (cut s.heap n).get? b = some o := fun b o e hy => by
    have hb : b < n := Nat.lt_of_not_le fun z => hy (mem_young.mpr ⟨Heap.lt_size e, z⟩)
    exact (cut_lt hb).trans e
  refine I.call' (ch := young n s.heap) G.os ⟨fun b o e z hb hy => G.base.keep b o (old b o e hy) z hb (fun q => nomatch q), fun b o e z hb hy => G.base.slot b o (old b o e hy) z hb (fun q => nomatch q), fun b o e z hy => G.base.free b o (old b o e hy) z (fun q => nomatch q),
    fun b o e hy => G.base.there b o (old b o e hy) (fun q => nomatch q), G.base.tups, G.base.frzs, G.base.tbls⟩ G.hok G.bare fun b hb => ?_
  have hb := (mem_young.mp hb).2
  exact ⟨.inr (Nat.le_trans h0 hb), Nat.ne_of_gt (Nat.lt_of_lt_of_le hL hb), fun y c e z => absurd (hc y c e) (by rw [z]; exact Nat.not_lt.mpr hb), fun p hp' z => absurd (hp p hp') (by rw [z]; exact Nat.not_lt.mpr hb)⟩
/-- asleep: what the frame holds then -/
theorem asleep {σg : L2.St} {pg : List (Addr × Obj)} {H1 : Hp} {s0 s1 : Shared} (Fl : Flat scope) {P : Program} {w : World} {K : PySem.W.Frag} {mg : Str → Option Value} {base : Heap} {outer : List Env} {H0 : Hp}
    (G : Inv (cg P w K mg base N qual scope f cdv A outer n s0 H0) pg σg H1 s1) : Asleep N scope n σg s1.heap := by
  obtain ⟨m, hm, hv⟩ := G.loc
  refine ⟨G.len, m, hm, fun i x v e1 e2 hk => ?_⟩
  obtain ⟨u, r, l⟩ := hv i x v e1 e2 (.inl hk)
  rcases l with ⟨_, q⟩ | ⟨q, _⟩
  · exact ⟨u, r, q⟩
  · have q : scope.names.lookup x = some .cell ∨ scope.names.lookup x = some .free := q
    rw [hk] at q
    rcases q with q | q <;> cases q
theorem Asleep.stays {σg : L2.St} {h h' : Heap} (a : Asleep N scope n σg h) (k : ∀ o, h.get? n = some o → h'.get? n = some o) : Asleep N scope n σg h' := by
  obtain ⟨l, m, ⟨o, es, ep, e, r⟩, hv⟩ := a
  exact ⟨l, m, ⟨o, es, ep, k o e, r⟩, hv⟩
end
/-! ### a for within a generator, nothing raised -/
section
variable {P : Program} {w : World} {A : Around} {R : GenEnd} {Y : Protocol} {m : Nat} {s₀ s : Shared} {c : Code} {fs : List Frame} {env : Env} {K : Flow → Sem PySem.Fin} {J : Value → Sem PySem.Fin} {gd : Bool → Bool} {lv : List Value → List Value}
abbrev backFr (env : Env) (K : Flow → Sem PySem.Fin) (J : Value → Sem PySem.Fin) (gd : Bool → Bool) (lv : List Value → List Value) (c : Code) (p : Pos) : Frame :=
  .ret (fun r => ((match r with | .ok f => (.pure f : Sem Flow) | .error e => .raise e).onRaise (cameBack env)).wrap K J gd lv) none (gd false) (lv []) c p []
theorem seg_for {tg iter : Expr} {body : List Stmt} {pos : Pos} (hs : ∀ y, foldedSetIterable iter env y = pure y)
    (h : wpAny (model P w) (A.over c fs) (eval iter env) (fun x s1 => wpAny (model P w) (A.over c fs) (pyIter x) (fun it s2 => ∀ p, Seg (model P w) A R Y m s₀ (.forLoop tg it body [] env) ((model P w).den (.forLoop tg it body [] env)) (backFr env K J gd lv c p :: fs) s2) (fun _ _ => False) s1) (fun _ _ => False) s) :
    Seg (model P w) A R Y m s₀ c ((exec (.For tg iter body [] pos) env).wrap K J gd lv) fs s := by
  rw [exec_For]
  refine seg_bind_wrap (wpAny_standAt ?_)
  refine seg_bind_wrap (wpAny_mono h (fun x s1 h1 => ?_) fun _ _ z => z.elim)
  refine seg_bind_wrap (wpAny_of_eq (hs x) ?_)
  refine seg_bind_wrap (wpAny_standAt ?_)
  refine seg_bind_wrap (wpAny_holding (wpAny_mono h1 (fun it s2 h2 => ?_) fun _ _ z => z.elim))
  exact seg_call h2
/-- one turn of it -/
theorem seg_turn {tg : Expr} {it : Value} {body : List Stmt}
    (h : wpAny (model P w) (A.over (.forLoop tg it body [] env) fs) (pyNext it) (fun r s1 => match r with
      | none => Seg (model P w) A R Y m s₀ (.block [] env) ((model P w).den (.block [] env)) fs s1
      | some v => wpAny (model P w) (A.over (.forLoop tg it body [] env) fs) (letOwnedTupleGo tg it v) (fun _ s2 => wpAny (model P w) (A.over (.forLoop tg it body [] env) fs) (assign tg env v) (fun _ s3 =>
          Seg (model P w) A R Y m s₀ (.forLoop tg it body [] env) ((execs body env).wrap (fun f => match f with
            | .next | .cont => .pure (.again (.forLoop tg it body [] env))
            | .brk => .pure (.done .next)
            | .ret v => .pure (.done (.ret v))) (fun e => (do noteFrame e env; theTreesLotGoes e : Sem Unit).wrap (fun _ => .raise e) .raise id id) id id) fs s3) (fun _ _ => False) s2) (fun _ _ => False) s1) (fun _ _ => False) s) :
    Seg (model P w) A R Y m s₀ (.forLoop tg it body [] env) ((model P w).den (.forLoop tg it body [] env)) fs s := by
  show Seg _ A R Y m s₀ _ ((forTurn tg it body [] env).onRaise (fun x => do noteFrame x env; theTreesLotGoes x)) fs s
  unfold forTurn
  rw [Sem.onRaise_eq_wrap]
  refine seg_bind_wrap (wpAny_standAt ?_)
  refine seg_bind_wrap (wpAny_onRaise (wpAny_mono h (fun r s1 h1 => ?_) fun _ _ z => z.elim))
  cases r with
  | none => exact seg_again rfl h1
  | some v =>
    refine seg_bind_wrap (wpAny_mono h1 (fun _ s2 h2 => ?_) fun _ _ z => z.elim)
    refine seg_bind_wrap (wpAny_mono h2 (fun _ s3 h3 => ?_) fun _ _ z => z.elim)
    rw [Sem.bind_eq_wrap', Sem.wrap_wrap]
    rw [Sem.wrap_congr (execs body env) _ _ (K' := fun f => match f with
            | .next | .cont => .pure (.again (.forLoop tg it body [] env))
            | .brk => .pure (.done .next)
            | .ret v => .pure (.done (.ret v))) (H' := (fun e => (do noteFrame e env; theTreesLotGoes e : Sem Unit).wrap (fun _ => .raise e) .raise id id))
        (fun f => by cases f <;> rfl)
        (fun e => by first | exact Sem.bind_eq_wrap _ _ | (show (do noteFrame e env; theTreesLotGoes e : Sem Unit).bind (fun _ => .raise e) = _; rw [Sem.bind_eq_wrap]))]
    exact h3
/-- behind its last turn -/
theorem seg_block (h : Seg (model P w) A R Y m s₀ (.block [] env) (.pure (.done .next)) fs s) : Seg (model P w) A R Y m s₀ (.block [] env) ((model P w).den (.block [] env)) fs s := h
end
end K78
end
section
set_option Elab.async false
set_option linter.all false
set_option maxRecDepth 100000
set_option maxHeartbeats 4000000
namespace K78
open PySem PySem.Spec PyProof.Rows L2 GenW
theorem execs_app (env : Env) : ∀ (a b : List Stmt), execs (a ++ b) env = (execs a env >>= fun f => (match f with
    | .next => execs b env
    | f => pure f)) := by
  intro a b
  induction a with
  | nil => rfl
  | cons st r ih =>
    show execs (st :: (r ++ b)) env = _
    rw [execs_cons, execs_cons, bind_assoc]
    congr 1
    funext f
    cases f with
    | next => exact ih
    | _ => rfl
section
variable {P : Program} {w : World} {A : Around} {R : GenEnd} {Y : Protocol} {m : Nat} {s₀ s : Shared} {c : Code} {fs : List Frame} {env : Env} {K : Flow → Sem PySem.Fin} {J : Value → Sem PySem.Fin} {gd : Bool → Bool} {lv : List Value → List Value}
/-- some statements that run through, then the rest -/
theorem seg_pre {a b : List Stmt} (h : wpAny (model P w) (A.over c fs) (execs a env) (fun f s' => f = .next ∧ Seg (model P w) A R Y m s₀ c ((execs b env).wrap K J gd lv) fs s') (fun _ _ => False) s) :
    Seg (model P w) A R Y m s₀ c ((execs (a ++ b) env).wrap K J gd lv) fs s := by
  rw [execs_app]
  refine seg_bind_wrap (wpAny_mono h (fun f s' h' => ?_) fun _ _ z => z.elim)
  obtain ⟨rfl, h'⟩ := h'
  exact h'
end
/-- the generator's text: some statements, then a loop over a list whose turn ends by a yield -/
structure GText (P : Program) (w : World) (K : PySem.W.Frag) (mg : Str → Option Value) (base : Heap) (N : List Str) (qual : Str) (scope : Scope) (f : Addr) (k : Nat) (body : List Stmt) (outer : List Env) (tpre : TS) (tl : TE) (gg : TG) (tb : TS) (ty : TE)
    (pre gpl : List Stmt) (gtg giter ye : Expr) (yp ypos gpos : Pos) : Prop where
  body : body = pre ++ [.For gtg giter (gpl ++ [.Expr (.Yield (some ye) yp) ypos]) [] gpos]
  pre : ∀ (cdv : Value) (A : Around) (n : Nat) (s : Shared) (H : Hp), Room k (A.deeper (envOfC qual scope n f cdv)) → PSs (cg P w K mg base N qual scope f cdv A outer n s H) pre tpre
  it : ∀ (cdv : Value) (A : Around) (n : Nat) (s : Shared) (H : Hp), Room k (A.deeper (envOfC qual scope n f cdv)) → PE (cg P w K mg base N qual scope f cdv A outer n s H) giter tl
  tg : ∀ (cdv : Value) (A : Around) (n : Nat) (s : Shared) (H : Hp), PG (cg P w K mg base N qual scope f cdv A outer n s H) gtg gg
  pl : ∀ (cdv : Value) (A : Around) (n : Nat) (s : Shared) (H : Hp), Room k (A.deeper (envOfC qual scope n f cdv)) → PSs (cg P w K mg base N qual scope f cdv A outer n s H) gpl tb
  y : ∀ (cdv : Value) (A : Around) (n : Nat) (s : Shared) (H : Hp), PE (cg P w K mg base N qual scope f cdv A outer n s H) ye ty
  fold : ∀ env y, foldedSetIterable giter env y = pure y
  co : scope.isCoroutine = false
/-- what the consumer puts away at a turn: the place d of its dict, p and a of the two names -/
def Puts (d p a : Nat) (y : V) (σ : L2.St) (H : Hp) (nx : L2.St → Hp → Prop) : Prop := ∃ (T b D : Addr) (v : V) (kvs : List (List Key × V)) (key : List Key), y = .ref T ∧ H T = some (.tup [.ref b, v]) ∧ ((σ.set p (some (.ref b))).set a (some v))[d]? = some (some (.ref D)) ∧ p < σ.length ∧ a < σ.length ∧ p ≠ a ∧
  H D = some (.dT kvs) ∧ H b = some (.tup (key.map kV)) ∧ kvs.length < sizeLine ∧ nx ((σ.set p (some (.ref b))).set a (some v)) (upd H D (.dT (putK kvs key v)))
/-- one turn of both -/
def Both (K : PySem.W.Frag) (gg : TG) (tb : TS) (ty : TE) (d p a : Nat) (xs : List V) (l : Addr) (I : Nat → L2.St → L2.St → Hp → Prop) (nx : L2.St → Hp → Prop) : Prop := ∀ k σ σg H, k ≤ xs.length → I k σ σg H → SqL K H l xs ∧ (k = xs.length → nx σ H) ∧
  ∀ x, xs[k]? = some x → gg x σg H fun σ2 H2 => tb { nx := fun σ3 H3 => ty σ3 H3 fun y H4 => Puts d p a y σ H4 fun σ' H5 => I (k + 1) σ' σ3 H5, rt := fun _ _ => False } σ2 H2
section
variable {X : Cx} {pins : List (Addr × Obj)} {N : List Str} {qual : Str} {scope : Scope} {f : Addr} {cdv : Value} {n g : Nat} {ga : Addr} {go : Obj} {d p a L : Nat} {xs : List V} {l it : Addr} {I : Addr → List V → Nat → L2.St → L2.St → Hp → Prop} {nx : L2.St → Hp → Prop}
/-- the sleeping generator's own things -/
structure Own (N : List Str) (scope : Scope) (n : Nat) (ga : Addr) (go : Obj) (l it : Addr) (k : Nat) (σg : L2.St) (H : Hp) (h : Heap) : Prop where
  sl : Asleep N scope n σg h
  hgo : h.get? ga = some go
  hit : h.IsListIter it l k
  fn : H n = none
  fg : H ga = none
  fi : H it = none
/-- where the consumer stands -/
structure Stnd0 (X : Cx) (pins : List (Addr × Obj)) (n : Nat) (ga : Addr) (go : Obj) : Prop where
  s0 : X.s_0.heap.objs.size ≤ n
  L : X.env.locals < n
  c : ∀ y c, X.env.cells.lookup y = some c → c < n
  p : ∀ q ∈ X.pn ++ pins, q.1 < n
  g : n < ga
  gc : ∀ v, go.data ≠ .cell v
structure Stnd (X : Cx) (pins : List (Addr × Obj)) (n : Nat) (ga it : Addr) (go : Obj) : Prop extends Stnd0 X pins n ga go where
  i : n < it
  gi : ga ≠ it
/-- the protocol -/
def YS (X : Cx) (pins : List (Addr × Obj)) (N : List Str) (scope : Scope) (n : Nat) (ga : Addr) (go : Obj) (d p a L : Nat) (I : Addr → List V → Nat → L2.St → L2.St → Hp → Prop) : Protocol := fun m _ u s1 kap =>
  ∃ l it xs k σ σg H y, xs.length = L ∧ Stnd X pins n ga it go ∧ m + 1 + k = L ∧ RelV y u ∧ Inv X pins σ H s1 ∧ Own N scope n ga go l it (k + 1) σg H s1.heap ∧ (Puts d p a y σ H fun σ' H' => I l xs (k + 1) σ' σg H') ∧
    ∀ s'' σ'' H'', Inv X pins σ'' H'' s'' → I l xs (k + 1) σ'' σg H'' → Own N scope n ga go l it (k + 1) σg H'' s''.heap → kap (.send .none) s''
def RS (X : Cx) (pins : List (Addr × Obj)) (nx : L2.St → Hp → Prop) : GenEnd := fun _ _ r s1 => ((r = .ok (.ret .none) ∨ r = .ok .next) ∧ ∃ σ H, Inv X pins σ H s1 ∧ nx σ H) ∨ ∃ e, r = .error e ∧ False
theorem Own.stays {k : Nat} {σg : L2.St} {H H' : Hp} {h h' : Heap} (o : Own N scope n ga go l it k σg H h) (k1 : ∀ b o, (b = n ∨ b = ga ∨ b = it) → h.get? b = some o → h'.get? b = some o) (k2 : ∀ b, H b = none → (b = n ∨ b = ga ∨ b = it) → H' b = none) : Own N scope n ga go l it k σg H' h' :=
  ⟨o.sl.stays fun ob e => k1 n ob (.inl rfl) e, k1 ga go (.inr (.inl rfl)) o.hgo, o.hit.at fun ob e => k1 it ob (.inr (.inr rfl)) e, k2 n o.fn (.inl rfl), k2 ga o.fg (.inr (.inl rfl)), k2 it o.fi (.inr (.inr rfl))⟩
/-- with the records that it leans on pinned -/
theorem pin_own {σg : L2.St} {H H0 : Hp} {s s0 : Shared} {P : Program} {w : World} {K : PySem.W.Frag} {mg : Str → Option Value} {base : Heap} {A : Around} {outer : List Env} {pg : List (Addr × Obj)} (G : Inv (cg P w K mg base N qual scope f cdv A outer n s0 H0) [] σg H s)
    (h : ∀ q ∈ pg, s.heap.get? q.1 = some q.2 ∧ H q.1 = none ∧ n < q.1 ∧ (∀ v, q.2.data ≠ .cell v)) : Inv (cg P w K mg base N qual scope f cdv A outer n s0 H0) pg σg H s :=
  G.pins_of fun q hq => by
    obtain ⟨h1, h2, h3, h4⟩ := h q hq
    refine ⟨h1, h2, Nat.ne_of_gt h3, fun hb => ?_, h4⟩
    obtain ⟨_, o, ho, _⟩ := G.ok.funs.mem hb
    have := (cut_some ho).1
    exact absurd this (Nat.lt_asymm h3)
variable {k0 : Nat} {body : List Stmt} {tpre : TS} {tl : TE} {gg : TG} {tb : TS} {ty : TE} {pre gpl : List Stmt} {gtg giter ye : Expr} {yp ypos gpos : Pos}
/-- from a turn's head on -/
theorem seg_loop (Fl : Flat scope) (T : GText X.prog X.w X.K X.mg X.base N qual scope f k0 body X.stack tpre tl gg tb ty pre gpl gtg giter ye yp ypos gpos) (B : Both X.K gg tb ty d p a xs l (I l xs) nx) (hL : xs.length = L) (hA : X.A.in1.frames = some X.stack) (hh : X.A.in1.handled = none)
    (hr : Room k0 (X.A.in1.deeper (envOfC qual scope n f cdv))) (Sd : Stnd X pins n ga it go) (cp : Pos) :
    ∀ (m k : Nat) (s₀ s0 s : Shared) (σ σg : L2.St) (H0 H : Hp), m + k = xs.length → Inv X pins σ H0 s0 → Inv (cg X.prog X.w X.K X.mg X.base N qual scope f cdv X.A.in1 X.stack n s0 H0) [] σg H s → Own N scope n ga go l it k σg H s.heap → I l xs k σ σg H →
      Seg (model X.prog X.w) X.A.in1 (RS X pins nx) (YS X pins N scope n ga go d p a L I) m s₀ (.forLoop gtg (.ref it) (gpl ++ [.Expr (.Yield (some ye) yp) ypos]) [] (envOfC qual scope n f cdv)) ((model X.prog X.w).den (.forLoop gtg (.ref it) (gpl ++ [.Expr (.Yield (some ye) yp) ypos]) [] (envOfC qual scope n f cdv)))
        [backFr (envOfC qual scope n f cdv) (fun fl => match fl with | .next => (execs [] (envOfC qual scope n f cdv)).wrap (fun f => .pure (.done (.ret (match f with | .ret v => v | _ => .none)))) (fun e => (leaving (envOfC qual scope n f cdv) e).wrap (fun _ => .raise e) .raise id id) id id | fl => .pure (.done (.ret (match fl with | .ret v => v | _ => .none))))
          (fun e => (leaving (envOfC qual scope n f cdv) e).wrap (fun _ => .raise e) .raise id id) id id (.func body (envOfC qual scope n f cdv)) cp] s := by
  intro m
  induction m with
  | zero =>
    intro k s₀ s0 s σ σg H0 H hk Ic G O hI
    have hk' : k = xs.length := by omega
    obtain ⟨hS, hend, _⟩ := B k σ σg H (Nat.le_of_eq hk') hI
    refine seg_turn ?_
    rw [over_loop rfl rfl, over_func]
    have Tn := turn_list (P := X.prog) (w := X.w) (K := X.K) (tg := gtg) l it
    refine wpAny_mono (Tn.done (cg X.prog X.w X.K X.mg X.base N qual scope f cdv X.A.in1 X.stack n s0 H0) rfl rfl rfl rfl k [] s σg H (fun _ _ => False) G (fun b hb => ?_) O.hit ⟨xs, hS, Nat.le_of_eq hk'.symm⟩) (fun r s1 h1 => ?_) fun _ _ z => False.elim z
    · have e : b = it := List.mem_singleton.mp hb
      subst e
      refine ⟨O.fi, Nat.ne_of_gt Sd.i, fun hb => ?_, .inr ?_, fun y c e => ?_, fun q hq => nomatch hq⟩
      · obtain ⟨_, o, ho, _⟩ := G.ok.funs.mem hb
        exact absurd (cut_some ho).1 (Nat.lt_asymm Sd.i)
      · exact Nat.le_trans (by
          show (cut s0.heap n).objs.size ≤ n
          exact G.ok.above) (Nat.le_of_lt Sd.i)
      · rw [show (cg X.prog X.w X.K X.mg X.base N qual scope f cdv X.A.in1 X.stack n s0 H0).env.cells = [] from Fl.cells] at e
        cases e
    · obtain ⟨rfl, G1⟩ := h1
      refine seg_block (seg_leaf (.ok .next) ?_)
      refine seg_end (.ok (.ret .none)) (.inl ⟨.inl rfl, σ, H, ?_, hend hk'⟩)
      exact handed Ic Sd.s0 Sd.L Sd.c Sd.p G1
  | succ m ih =>
    intro k s₀ s0 s σ σg H0 H hk Ic G O hI
    have hlt : k < xs.length := by omega
    obtain ⟨hS, _, hst⟩ := B k σ σg H (Nat.le_of_lt hlt) hI
    have hx : xs[k]? = some xs[k] := List.getElem?_eq_getElem hlt
    refine seg_turn ?_
    rw [over_loop rfl rfl, over_func]
    have Tn := turn_list (P := X.prog) (w := X.w) (K := X.K) (tg := gtg) l it
    have fp : ∀ {pg : List (Addr × Obj)} {H' : Hp}, H' it = none → (∀ q ∈ pg, q.1 ≠ it) → ∀ b ∈ [it], FpOk (cg X.prog X.w X.K X.mg X.base N qual scope f cdv X.A.in1 X.stack n s0 H0) pg H' b := fun {pg H'} h0 hq b hb => by
      have e : b = it := List.mem_singleton.mp hb
      subst e
      refine ⟨h0, Nat.ne_of_gt Sd.i, fun hb => ?_, .inr ?_, fun y c e => ?_, fun q hq' => hq q hq'⟩
      · obtain ⟨_, o, ho, _⟩ := G.ok.funs.mem hb
        exact absurd (cut_some ho).1 (Nat.lt_asymm Sd.i)
      · exact Nat.le_trans (by
          show (cut s0.heap n).objs.size ≤ n
          exact G.ok.above) (Nat.le_of_lt Sd.i)
      · rw [show (cg X.prog X.w X.K X.mg X.base N qual scope f cdv X.A.in1 X.stack n s0 H0).env.cells = [] from Fl.cells] at e
        cases e
    have Gp : Inv (cg X.prog X.w X.K X.mg X.base N qual scope f cdv X.A.in1 X.stack n s0 H0) [(ga, go)] σg H s := pin_own G fun q hq => by
      rw [List.mem_singleton.mp hq]
      exact ⟨O.hgo, O.fg, Sd.g, Sd.gc⟩
    refine wpAny_mono (Tn.item (cg X.prog X.w X.K X.mg X.base N qual scope f cdv X.A.in1 X.stack n s0 H0) rfl rfl rfl rfl k [(ga, go)] s σg H (fun _ _ => False) Gp (fp O.fi fun q hq => by rw [List.mem_singleton.mp hq]; exact Sd.gi) O.hit ⟨xs, xs[k], hS, hx⟩) (fun r s1 h1 => ?_) fun _ _ z => False.elim z
    obtain ⟨u, rfl, h1⟩ := h1
    refine wpAny_mono h1 (fun _ s2 h2 => ?_) fun _ _ z => False.elim z
    obtain ⟨x, H', G2, ru, ⟨rfl, hy⟩, it2, n2⟩ := h2
    have ex : x = xs[k] := by
      have := hy xs hS
      rw [hx] at this
      exact (Option.some.inj this).symm
    obtain ⟨oi, hoi, hoc, hod⟩ := id it2
    have gaAt : s2.heap.get? ga = some go := (G2.pin (ga, go) (List.mem_append_right _ List.mem_cons_self)).1
    have fg2 : H' ga = none := (G2.pin (ga, go) (List.mem_append_right _ List.mem_cons_self)).2.1
    have G3 : Inv (cg X.prog X.w X.K X.mg X.base N qual scope f cdv X.A.in1 X.stack n s0 H0) [(ga, go), (it, oi)] σg H' s2 := pin_own (G2.pins_of fun q hq => nomatch hq) fun q hq => by
      rcases List.mem_cons.mp hq with e | hq
      · rw [e]; exact ⟨gaAt, fg2, Sd.g, Sd.gc⟩
      · rw [List.mem_singleton.mp hq]; exact ⟨hoi, n2 it List.mem_cons_self, Sd.i, fun v z => by rw [hod] at z; cases z⟩
    refine wpAny_mono ((T.tg cdv X.A.in1 n s0 _).run _ s2 σg _ x u _ G3 ru (by rw [ex]; exact hst _ hx)) (fun _ s3 h3 => ?_) fun _ _ z => False.elim z
    obtain ⟨σ3, H3, G4, q3⟩ := h3
    refine seg_pre ?_
    rw [over_loop rfl rfl, over_func]
    refine wpAny_mono ((T.pl cdv X.A.in1 n s0 _ hr).run _ s3 σ3 H3 _ G4 q3) (fun fl s4 h4 => ?_) fun _ _ z => False.elim z
    cases fl with
    | brk => obtain ⟨_, _, _, z⟩ := h4; exact z.elim
    | cont => obtain ⟨_, _, _, z⟩ := h4; exact z.elim
    | ret v => obtain ⟨_, _, _, _, _, z⟩ := h4; exact z.elim
    | next =>
      obtain ⟨σ4, H4, G5, q4⟩ := h4
      refine ⟨rfl, seg_execs_cons (seg_Expr_Yield rfl rfl rfl ?_ T.co (by unfold interactive; rw [show (envOfC qual scope n f cdv).scope.kind = .function from Fl.kind]; rfl))⟩
      rw [over_loop rfl rfl, over_func]
      refine wpAny_mono ((T.y cdv X.A.in1 n s0 _).run _ s4 σ4 H4 _ G5 q4) (fun v s5 h5 => ?_) fun _ _ z => False.elim z
      obtain ⟨y, H5, G6, ry, hput⟩ := h5
      intro kap hkap
      have O6 : Own N scope n ga go l it (k + 1) σ4 H5 s5.heap := by
        have z1 := G6.pin (ga, go) (List.mem_append_right _ List.mem_cons_self)
        have z2 := G6.pin (it, oi) (List.mem_append_right _ (List.mem_cons_of_mem _ List.mem_cons_self))
        exact ⟨asleep Fl G6, z1.1, ⟨oi, z2.1, hoc, hod⟩, G6.free, z1.2.1, z2.2.1⟩
      refine ⟨l, it, xs, k, σ, σ4, H5, y, hL, Sd, by omega, ry, handed Ic Sd.s0 Sd.L Sd.c Sd.p G6, O6, hput, fun s'' σ'' H'' I'' i'' O'' => hkap .none s'' ?_⟩
      have G7 := wake (N := N) (qual := qual) (f := f) (cdv := cdv) I'' Fl hA hh Sd.s0 Sd.L (by
        obtain ⟨_, m', ⟨o, _, _, e, _⟩, _⟩ := O''.sl
        exact Nat.le_of_lt (Heap.lt_size e)) O''.fn O''.sl
      exact seg_again rfl (ih (k + 1) s'' s'' s'' σ'' σ4 H'' H'' (by omega) I'' G7 O'' i'')
/-- the whole statement -/
def tForGen (K : PySem.W.Frag) (N ps : List Str) (C : Addr) (m : Str) (to : TE) (ta : TA) (tpre : TS) (tl : TE) (gg : TG) (tb : TS) (ty : TE) (d p a : Nat) : TS := fun D σ H => to σ H fun x H1 => ∃ q dx fs, x = .ref q ∧ H1 q = some (.ins C dx fs) ∧ fs.lookup m = none ∧
  ta σ H1 fun vs H2 => vs.length + 1 = ps.length ∧ ∃ (L : Nat) (I : Addr → List V → Nat → L2.St → L2.St → Hp → Prop), (∀ l xs, xs.length = L → Both K gg tb ty d p a xs l (I l xs) D.nx) ∧
    tpre { nx := fun σg H3 => tl σg H3 fun y H4 => ∃ l xs, y = .ref l ∧ xs.length = L ∧ SqL K H4 l xs ∧ I l xs 0 σ σg H4, rt := fun _ _ => False } (start N (x :: vs)) H2
theorem RS.goes {gs : GenState} {M : Model} {B : Around} {Y : Protocol} {m : Nat} {r : Resume} {s : Shared} (h : gs.Goes M B (RS X pins nx) Y m r s) :
    gs.Goes M B (fun n s₀ r s1 => ((r = .ok (.ret .none) ∨ r = .ok .next) ∧ ∃ σ H, Inv X pins σ H s1 ∧ nx σ H) ∨ ∃ e, r = .error e ∧ False) Y m r s := h
end
section
variable {X : Cx} {N ps : List Str} {qual name m : Str} {scope : Scope} {body : List Stmt} {params : Arguments} {f C : Addr} {dV kV doc pm cdv ct oc : Value} {an od : Option Addr} {osl : Array (Option Value)} {d p a k0 : Nat}
variable {tpre : TS} {tl : TE} {gg : TG} {tb : TS} {ty : TE} {pre gpl : List Stmt} {gtg giter ye o e : Expr} {es : List Expr} {to : TE} {ta : TA} {yp ypos gpos : Pos} {xd xp xa : Str} {pp pa tp apos cpos q1 q2 q3 q4 q5 fpos : Pos} {tk : Nat} {pl : Sem Bool}
theorem ps_forGen (hp : PassesOwn (model X.prog X.w) X.A X.env X.xe) (hc : X.calm = true) (hu : X.A.units + 1 < cLine) (ho : PE X o to) (c : Cls X.K C) (hm : Meth X.K C m f)
    (lk : X.K.lookup f = some ⟨oc, od, .func (PySem.W.fnOf name qual params body scope dV kV doc pm an cdv ct), osl⟩) (hcd : PySem.W.codeIn X.K cdv qual = true) (S : GScope N ps scope) (Fl : Flat scope)
    (T : GText X.prog X.w X.K X.mg X.base N qual scope f k0 body X.stack tpre tl gg tb ty pre gpl gtg giter ye yp ypos gpos) (hr : Room (k0 + 3) X.A) (hb : Binds X.K (PySem.W.fnOf name qual params body scope dV kV doc pm an cdv ct) ps []) (ha : PA X (e :: es) ta)
    (hN : X.N.Nodup) (hxd : X.N[d]? = some xd) (hxp : X.N[p]? = some xp) (hxa : X.N[a]? = some xa) (kd : X.env.scope.names.lookup xd = some .local) (kp : X.env.scope.names.lookup xp = some .local) (ka : X.env.scope.names.lookup xa = some .local)
    (hsw : ∀ l, swapsWith (.Name xa q3) (some (.Subscript (.Name xd q1) (.Name xp q2) q4)) l X.env = pure false)
    (dd : (xd == ("__debug__" : Str)) = false := by decide) (dp : (xp == ("__debug__" : Str)) = false := by decide) (da : (xa == ("__debug__" : Str)) = false := by decide)
    (hs : ∀ y, foldedSetIterable (.Call (.Attribute o m apos) (e :: es) [] cpos) X.env y = pure y := by intro _; rfl)
    (hst : starEach (e :: es) X.env = (false, eval e X.env) :: starEach es X.env := by rfl) (hpl : (backTo cpos (starEach es X.env)).any (·.1) = false := by rfl)
    (ht : eval (.Call (.Attribute o m apos) (e :: es) [] cpos) X.env = (do
      let ov ← eval o X.env
      standAt apos.atName
      let (f, first) ← holding [ov] (getMethod ov m pl)
      callWith cpos f first (backTo cpos (starEach (e :: es) X.env)) (backToKw cpos (keywordEach [] X.env))) := by rfl) :
    PS X (.For (.Tuple [.Name xp pp, .Name xa pa] tk tp) (.Call (.Attribute o m apos) (e :: es) [] cpos) [.Assign [.Subscript (.Name xd q1) (.Name xp q2) q4] (.Name xa q3) q5] [] fpos) (tForGen X.K N ps C m to ta tpre tl gg tb ty d p a) := by
  obtain rfl := T.body
  refine ⟨fun pins s σ H D I h => ?_⟩
  refine wpAny_For ?_ hs
  refine PySem.W.methodCall_KW (pl := pl) (thn (ho.run pins s σ H _ I h) fun u s1 ⟨x, H1, I1, rx, q, dx, fs, ex, ea, l, h1⟩ => ?_) ht
  subst ex
  obtain rfl : u = Value.ref q := rx
  refine getmeth_ok I1 ea c hm l ?_
  refine PySem.W.callWith_K (first := [.ref q]) (h₀ := X.base) I.ok.mod.kin hm.kp (thn (ha.run cpos pins s1 σ H1 _ I1 h1) fun us s2 ⟨vs, H2, I2, r, hvl, L, IL, hB, hpre⟩ => ⟨I2.kIn, ?_⟩) hst hpl
  have hl2 : (Value.ref q :: us).length = ps.length := by
    rw [← hvl, r.length]; rfl
  have hb' := hb s2 (.ref q :: us) I2.kIn (by rw [List.append_nil]; exact hl2)
  rw [List.append_nil] at hb'
  refine wpAny_call (codeAny_mono (gen_made (A := X.A) (outer := X.stack) (k := k0 + 3) (args := ⟨.ref q :: us, []⟩) (us := .ref q :: us) (vs := .ref q :: vs) lk hcd S hr I2.env0 hb' (.cons rfl r) hvl) fun res s' hq => ?_)
  obtain ⟨u, go, s3, rfl, G⟩ := hq
  obtain ⟨nm, qn, gc, gd, gsl⟩ := id G.gen
  obtain rfl := G.val
  have hgen : s'.heap.IsGen s3.heap.objs.size s3.gens.size := ⟨go, nm, qn, by rw [G.heap]; exact G.at_, gc, gd, gsl⟩
  refine wpAny_pyIter_gen hgen ?_
  have hgs : s'.gens[s3.gens.size]? = some (.fresh (.func (pre ++ [.For gtg giter (gpl ++ [.Expr (.Yield (some ye) yp) ypos]) [] gpos]) (envOfC qual scope s2.heap.objs.size f cdv))) := by rw [G.gens]; exact Array.getElem?_push_size ..
  have hgl : s3.gens.size < s'.gens.size := (Array.getElem?_eq_some_iff.mp hgs).1
  have kp3 : ∀ b o, s3.heap.get? b = some o → s'.heap.get? b = some o := fun b o e => by rw [G.heap]; exact Heap.get?_push_of_some _ e
  have kp2 : ∀ b o, s2.heap.get? b = some o → s'.heap.get? b = some o := fun b o e => kp3 b o (G.keep b o e)
  have hba : AllBare s'.gens := by rw [G.gens]; exact AllBare.push G.bare rfl
  have e0w : Env0 X.prog X.w X.K X.mg X.base X.A.in1 X.stack s2 H2 := I2.env0.in1
  have IG := G.ok X.A.in1 E0 (I2.ok.hd hc) e0w
  have hAs : Asleep N scope s2.heap.objs.size (start N (.ref q :: vs)) s3.heap := by
    obtain ⟨mm, hm', hv'⟩ := IG.loc
    refine ⟨IG.len, mm, hm', fun i y v e1 e2 hk => ?_⟩
    obtain ⟨u, r, l⟩ := hv' i y v e1 e2 (.inl hk)
    rcases l with ⟨_, z⟩ | ⟨z, _⟩
    · exact ⟨u, r, z⟩
    · have z : scope.names.lookup y = some .cell ∨ scope.names.lookup y = some .free := z
      rw [hk] at z
      rcases z with z | z <;> cases z
  have I3 : Inv X pins σ H2 s3 := I2.call' (ch := []) IG.os (Un.kept G.keep) (I2.hok.kept G.keep) G.bare fun b z => nomatch z
  have I' : Inv X pins σ H2 s' := I3.call' (ch := []) (G.os.trans (show s3.os = s2.os from IG.os).symm) (Un.kept kp3) (I3.hok.kept kp3) hba fun b z => nomatch z
  have low0 : X.s_0.heap.objs.size ≤ s2.heap.objs.size := I2.sz
  have hL0 : X.env.locals < s2.heap.objs.size := I2.lt
  have Sd0 : Stnd0 X pins s2.heap.objs.size s3.heap.objs.size go := ⟨low0, hL0, fun y b e => let ⟨_, _, z, _⟩ := I2.cell y b e; Heap.lt_size z, fun z hz => Heap.lt_size (I2.pin z hz).1, G.lt, fun v z => by rw [gd] at z; cases z⟩
  have O0 : s'.heap.get? s3.heap.objs.size = some go := by rw [G.heap]; exact G.at_
  refine codeAny_forLoop_any (fun j t => ∃ σ' H' gs, AllBare t.gens ∧ t.gens[s3.gens.size]? = some gs ∧ Inv X pins σ' H' t ∧ t.heap.get? s3.heap.objs.size = some go ∧
    gs.Goes (model X.prog X.w) X.A.in1 (RS X pins D.nx) (YS X pins N scope s2.heap.objs.size s3.heap.objs.size go d p a L IL) j (.send .none) (t.setGen s3.gens.size .running)) ?_ L ⟨σ, H2, _, hba, hgs, I', O0, rfl, ?_⟩
  · rintro j t ⟨σ', H', gs, hba', hgs', It, hO, hgo⟩
    have hgl' : s3.gens.size + 1 ≤ t.gens.size := (Array.getElem?_eq_some_iff.mp hgs').1
    refine wpAny_passesOwn hp ?_
    refine wpAny_gsz (n := s3.gens.size + 1) hgl' (next_genG (F := fun _ _ s1 => ∃ σ H, Inv X pins σ H s1 ∧ D.nx σ H) (Er := fun _ _ => False) (n := j) (It.ok.hd hc) It.nolimit hr.depth ⟨go, nm, qn, hO, gc, gd, gsl⟩ hgs' (RS.goes hgo) (fun v t1 gs' hbare hv => ?_) (fun t1 hpz h' hk => ?_) (fun e s1 z => z.elim))
    · intro hsz
      obtain ⟨l, it, xs, k, σ1, σg, H1, y, hxl, Sd, hm, ry, Ic, O, ⟨T, b, Dd, v', kvs, key, ey, hT, hd', hpl', hal, hne, hD, hb', hlen, hI⟩, kap⟩ := hv
      subst ey
      cases ry
      have hsz1 : s3.gens.size < t1.gens.size := by
        have q : (t1.setGen s3.gens.size gs').gens.size = t1.gens.size := setGen_size _ _ _
        have hsz' : s3.gens.size + 1 ≤ (t1.setGen s3.gens.size gs').gens.size := hsz
        omega
      have Ic2 : Inv X pins σ1 H1 (t1.setGen s3.gens.size gs') := Ic.call' (ch := []) rfl (Un.kept fun b o z => z) Ic.hok (allBare_setGen Ic.bare hbare) fun b z => nomatch z
      refine go_of (s := t1.setGen s3.gens.size gs') O.hgo gc gd (by decide) ?_
      refine two_targets hc Ic2 hT hN hxp hxa kp ka fun t2 I2' st2 => ?_
      refine wpAny_execs_cons ?_
      have vp : ((σ1.set p (some (.ref b))).set a (some v'))[p]? = some (some (.ref b)) := by
        rw [List.getElem?_set_ne (Ne.symm hne), List.getElem?_set_self hpl']
      have va : ((σ1.set p (some (.ref b))).set a (some v'))[a]? = some (some v') := by
        rw [List.getElem?_set_self (by rw [List.length_set]; exact hal)]
      refine put_local hu I2' hxd hxp hxa kd kp ka hd' vp va hD hb' hlen (fun t3 I3' hg3 kp3' => ?_) (hsw _) dd dp da
      refine wpAny_execs_nil ?_
      have far : ∀ c o, c ≠ X.env.locals → c ≠ Dd → t1.heap.get? c = some o → t3.heap.get? c = some o := fun c o h1 h2 e => kp3' c o h2 (st2.2 c o h1 e)
      have nL : ∀ c, (c = s2.heap.objs.size ∨ c = s3.heap.objs.size ∨ c = it) → c ≠ X.env.locals := fun c hc' => by
        have h1 := Sd.g
        have h2 := Sd.i
        have h3 := Sd.L
        rcases hc' with e | e | e <;> rw [e]
        · exact Nat.ne_of_gt h3
        · exact Nat.ne_of_gt (Nat.lt_trans h3 h1)
        · exact Nat.ne_of_gt (Nat.lt_trans h3 h2)
      have nD : ∀ c, (c = s2.heap.objs.size ∨ c = s3.heap.objs.size ∨ c = it) → c ≠ Dd := fun c hc' z => by
        have : H1 c = none := by
          rcases hc' with e | e | e <;> rw [e]
          · exact O.fn
          · exact O.fg
          · exact O.fi
        rw [z, hD] at this
        cases this
      have O3 : Own N scope s2.heap.objs.size s3.heap.objs.size go l it (k + 1) σg (upd H1 Dd (.dT (putK kvs key v'))) t3.heap := O.stays (fun c o hc' e => far c o (nL c hc') (nD c hc') e) fun c e hc' => by
        rw [upd_ne (nD c hc')]; exact e
      have g3 : t3.gens = (t1.setGen s3.gens.size gs').gens := hg3.trans st2.1
      have hb3 : AllBare t3.gens := by rw [g3]; exact allBare_setGen Ic.bare hbare
      have I4 : Inv X pins ((σ1.set p (some (.ref b))).set a (some v')) (upd H1 Dd (.dT (putK kvs key v'))) (t3.setGen s3.gens.size .running) := I3'.call' (ch := []) rfl (Un.kept fun b o z => z) I3'.hok (allBare_setGen hb3 rfl) fun b z => nomatch z
      have hk := kap (t3.setGen s3.gens.size .running) _ _ I4 hI O3
      cases j with
      | zero => exact hk.elim
      | succ m => exact ⟨m, Nat.lt_succ_self m, _, _, gs', hb3, by rw [g3]; exact setGen_at hsz1, I3', O3.hgo, hk⟩
    · intro _
      obtain ⟨σ1, H1, I1', q1⟩ := hpz
      have I5 : Inv X pins σ1 H1 { t1.setGen s3.gens.size .finished with heap := h' } := I1'.call' (ch := []) rfl (Un.kept hk) (I1'.hok.kept hk) (allBare_setGen I1'.bare rfl) fun b z => nomatch z
      exact wpAny_execs_nil ⟨σ1, H1, I5, q1⟩
  · have I6 : Inv X pins σ H2 (s'.setGen s3.gens.size .running) := I'.call' (ch := []) rfl (Un.kept fun b o z => z) I'.hok (allBare_setGen hba rfl) fun b z => nomatch z
    have hfn : H2 s2.heap.objs.size = none := I2.fresh
    have hfg : H2 s3.heap.objs.size = none := I3.fresh
    have hnl : s2.heap.objs.size ≤ (s'.setGen s3.gens.size .running).heap.objs.size := Nat.le_of_lt (Nat.lt_of_lt_of_le G.lt (Nat.le_of_lt (Heap.lt_size O0)))
    have W := wake (N := N) (qual := qual) (f := f) (cdv := cdv) (A := X.A.in1) I6 Fl I.ok.frames (I.ok.hd hc) low0 hL0 hnl hfn (hAs.stays fun o e => kp3 _ o e)
    have W1 := pin_own (pg := [(s3.heap.objs.size, go)]) W fun q hq => by
      rw [List.mem_singleton.mp hq]
      exact ⟨O0, hfg, Sd0.g, Sd0.gc⟩
    have hri : Room k0 (X.A.in1.deeper (envOfC qual scope s2.heap.objs.size f cdv)) := (hr.in1.deeper _).mono (Nat.le_succ _)
    refine seg_func ?_
    refine seg_pre ?_
    rw [over_func]
    refine wpAny_mono ((T.pre cdv X.A.in1 s2.heap.objs.size _ H2 hri).run _ _ _ _ _ W1 hpre) (fun fl t1 h1' => ?_) fun _ _ z => False.elim z
    cases fl with
    | brk => obtain ⟨_, _, _, z⟩ := h1'; exact z.elim
    | cont => obtain ⟨_, _, _, z⟩ := h1'; exact z.elim
    | ret v => obtain ⟨_, _, _, _, _, z⟩ := h1'; exact z.elim
    | next =>
      obtain ⟨σ1, H1', G1, q1'⟩ := h1'
      refine ⟨rfl, seg_execs_cons (seg_for (T.fold _) ?_)⟩
      rw [over_func]
      refine wpAny_mono ((T.it cdv X.A.in1 s2.heap.objs.size _ H2 hri).run _ t1 σ1 H1' _ G1 q1') (fun u t2 h2 => ?_) fun _ _ z => False.elim z
      obtain ⟨y, H3, G2, ry, l, xs, ey, hxl, hS, hI⟩ := h2
      subst ey
      cases ry
      obtain ⟨its, rv, pp', hz⟩ := G2.list hS
      refine wpAny_pyIter_list pp'.isList ?_
      intro cp
      have gaAt := (G2.pin _ (List.mem_append_right _ (List.mem_singleton.mpr rfl))).1
      have gaNo := (G2.pin _ (List.mem_append_right _ (List.mem_singleton.mpr rfl))).2.1
      have kpi : ∀ b o, t2.heap.get? b = some o → (t2.heap.push { cls := .type "list_iterator", data := .fields #[.ref l, .int 0 0] }).get? b = some o := fun b o e => Heap.get?_push_of_some _ e
      have G3 := G2.kept (t' := t2.toks) kpi
      have G4 := G3.pins_of (pins' := []) fun q hq => nomatch hq
      have gaLt : s3.heap.objs.size < t2.heap.objs.size := Heap.lt_size gaAt
      have hg' := Sd0.g
      exact seg_loop Fl T (hB l xs hxl) hxl I.ok.frames (I.ok.hd hc) hri ⟨Sd0, Nat.lt_trans hg' gaLt, Nat.ne_of_lt gaLt⟩ cp L 0 _ _ _ σ σ1 H2 H3 (by rw [hxl]; rfl) I6 G4 ⟨(asleep Fl G3), kpi _ _ gaAt, ⟨_, Heap.get?_push_size _ rfl, rfl, rfl⟩, G3.free, gaNo, G2.fresh⟩ hI
end
end K78
end
section
set_option Elab.async false
set_option linter.all false
set_option maxRecDepth 100000
set_option maxHeartbeats 4000000
namespace K78
open PySem PySem.Spec PyProof.Rows L2 He
local macro_rules | `(tactic| walk_at "go") => `(tactic| repeat (first | refine ⟨_, _, rfl, rfl, ?_⟩ | refine ⟨_, rfl, ?_⟩ | refine iteT ?_ | refine iteF ?_))
def cScOf : Stmt → Scope
  | .Assign _ (.ListComp _ _ sc _) _ => sc
  | .Return (some (.ListComp _ _ sc _)) _ => sc
  | _ => defScope s_law
/-- the scope of the comprehension that is a body's k-th statement -/
def cSc (st : Stmt) (k : Nat) : Scope := cScOf ((defBody st).getD k (.Pass ⟨0, 0, 0, 0⟩))
theorem hu64 {k : Nat} {A : Around} (r : Room k A) : A.units + 64 < cLine := r.units
theorem hu65 {k : Nat} {A : Around} (r : Room k A) : A.units + 65 < cLine := by have := r.un; omega
/-! the rules within a comprehension, the text's part told -/
def rListOf (K : PySem.W.Frag) : List V → Hp → VK → Prop := fun xs H Q => ∃ p ys, xs = [.ref p] ∧ (SqL K H p ys ∨ SqT K H p ys) ∧ ∀ l, H l = none → Q (.ref l) (upd H l (.lst ys))
theorem call_list_ofK {X : Cx} {K : PySem.W.Frag} (h : X.K = K) : CallR X (.type "list") (rListOf K) := by subst h; exact call_list_of
def rLenSeq (K : PySem.W.Frag) : List V → Hp → VK → Prop := fun xs H Q => ∃ p ys, xs = [.ref p] ∧ (SqL K H p ys ∨ SqT K H p ys) ∧ Q (.int ys.length) H
theorem call_len_seqK {X : Cx} {K : PySem.W.Frag} (h : X.K = K) : CallR X (.builtin "len") (rLenSeq K) := by subst h; exact call_len_seq
theorem ix_listK {X : Cx} {K : PySem.W.Frag} (h : X.K = K) : IxR X (rIxL K) := by subst h; exact ix_list
theorem ix_tupK {X : Cx} {K : PySem.W.Frag} (h : X.K = K) : IxR X (rIxT K) := by subst h; exact ix_tup
theorem get_listK {X : Cx} {K : PySem.W.Frag} (h : X.K = K) : PGet X (rIxN K) := by subst h; exact get_list
theorem pi_listK {X : Cx} {K : PySem.W.Frag} {tg l : Expr} {tl : TE} (h : X.K = K) (hl : PE X l tl) : PI X tg l (iList K tl) := by subst h; exact pi_list hl
theorem pi_enumK {X : Cx} {K : PySem.W.Frag} {e : Expr} {ta : TA} {p pos tpos : Pos} {elts : List Expr} {kk : Nat} (h : X.K = K) (hg : Gl X "enumerate") (hm : X.mg "enumerate" = none) (ha : PA X [e] ta) (hs : starEach [e] X.env = [(false, eval e X.env)] := by rfl) :
    PI X (.Tuple elts kk tpos) (.Call (.Name "enumerate" p) [e] [] pos) (iEnum K ta) := by subst h; exact pi_enum hg hm ha hs
theorem pi_zipK {X : Cx} {K : PySem.W.Frag} {e e2 : Expr} {ta : TA} {p pos tpos : Pos} {elts : List Expr} {kk : Nat} (h : X.K = K) (hg : Gl X "zip") (hm : X.mg "zip" = none) (ha : PA X [e, e2] ta)
    (hs : starEach [e, e2] X.env = (false, eval e X.env) :: starEach [e2] X.env := by rfl) (hpl : (backTo pos (starEach [e2] X.env)).any (·.1) = false := by rfl) :
    PI X (.Tuple elts kk tpos) (.Call (.Name "zip" p) [e, e2] [] pos) (iZip K ta) := by subst h; exact pi_zip hg hm ha hs hpl
theorem pe_fldK {X : Cx} {K : PySem.W.Frag} {e : Expr} {f : Str} {pos : Pos} {ta : TE} (h : X.K = K) (he : PE X e ta) (hb : attributeBase e f X.env (eval e X.env) = eval e X.env) : PE X (.Attribute e f pos) (tFld K ta f) := by subst h; exact pe_fld he hb
theorem pg_tupK {X : Cx} {K : PySem.W.Frag} {es : List Expr} {k : Nat} {pos : Pos} {t : TGs} {n : Nat} (h : X.K = K) (hc : X.calm = true) (hp : PGs X es t)
    (hn : (assignEach es X.env).length = n := by rfl) (hst : (assignEach es X.env).findIdx? (·.1) = none := by rfl) : PG X (.Tuple es k pos) (gTup K n t) := by subst h; exact pg_tup hc hp hn hst
/-- a pair of whole numbers stands at t -/
abbrev T2 (H : Hp) (t : Addr) (i j : Int) : Prop := H t = some (.tup [.int i, .int j])
def isK (z : Str) : Prop := z = "even" ∨ z = "stock" ∨ z = "wish" ∨ z = "any"
def cA (z : Str) : Bool := decide (V.str z = V.str "stock") || decide (V.str z = V.str "any")
def cB (z : Str) : Bool := decide (V.str z = V.str "wish") || decide (V.str z = V.str "any")
section
variable {P : Program} {w : World} {K : PySem.W.Frag} {mg : Str → Option Value} {base : Heap}
theorem t2_at {H : Hp} {t : Addr} {i j : Int} (h : T2 H t i j) : SqT K H t [.int i, .int j] := .inl (.inl h)
def sp_is_integer (K : PySem.W.Frag) : Sp := fun vs H Q _ => ∃ n : Int, vs = [.int n] ∧ Q (.bl true) H
theorem ok_is_integer (E : TX K mg) : FnOk P w K mg base CX0 1 (a_is_integer K) (fdOf K (a_is_integer K)) P_is_integer (sp_is_integer K) := by
  refine (f_is_integer E).ok sc_is_integer (fun vs H Q E' h => ?_) (fun cdv A outer s H vs Q E' hr h => ?_)
  · obtain ⟨n, rfl, _⟩ := h; rfl
  · obtain ⟨n, rfl, k⟩ := h
    refine ⟨_, PSs.nox (pss_one (ps_ret (pe_and (pe_callB call_isi (by rfl) (fr_isinstance (K := K) E) (by decide +kernel) (pa_cons (pv 0) (pa_cons (pe_bltn (v := .ty "int") (by rfl) (fr_int (K := K) E) (by decide +kernel) rfl) pa_nil))) (pe_one (pe_not (pe_callB call_isi (by rfl) (fr_isinstance (K := K) E) (by decide +kernel) (pa_cons (pv 0) (pa_cons (pe_bltn (v := .ty "bool") (by rfl) (fr_bool (K := K) E) (by decide +kernel) rfl) pa_nil)))))))), ?_⟩
    refine ⟨_, rfl, _, _, _, _, _, rfl, .ty _, .base (.int _), kit_ty (r := true) (by decide +kernel), _, rfl, ?_⟩
    exact ⟨_, rfl, _, _, _, _, _, rfl, .ty _, .base (.int _), kit_ty (r := false) (by decide +kernel), _, rfl, k⟩
def sp_is_between (K : PySem.W.Frag) : Sp := fun vs H Q _ => ∃ a b c : Int, vs = [.int a, .int b, .int c] ∧ Q (.bl (decide (b ≤ a) && decide (a ≤ c))) H
theorem ok_is_between (E : TX K mg) : FnOk P w K mg base CX0 2 (a_is_between K) (fdOf K (a_is_between K)) P_is_between (sp_is_between K) := by
  refine (f_is_between E).ok sc_is_between (fun vs H Q E' h => ?_) (fun cdv A outer s H vs Q E' hr h => ?_)
  · obtain ⟨_, _, _, rfl, _⟩ := h; rfl
  · obtain ⟨a, b, c, rfl, k⟩ := h
    refine ⟨_, PSs.nox (pss_one (ps_ret (pe_and (pe_call (ok_is_integer (K := K) E) (hr.mono (by decide)) rfl (g_is_integer (K := K) E) (k_is_integer (K := K) E) (b_is_integer (K := K) E) .nil pass0 (pa_cons (pv 0) pa_nil)) (pe_one (pe_chain op_le op_le (pv 1) (pv 0) (pv 2)))))), ?_⟩
    refine ⟨_, rfl, _, rfl, _, rfl, ?_⟩
    refine ⟨_, rfl, _, rfl, _, _, rfl, rfl, _, rfl, ?_⟩
    by_cases h : b ≤ a
    · rw [decide_eq_true h] at k ⊢
      exact ⟨_, rfl, _, _, rfl, rfl, k⟩
    · rw [decide_eq_false h] at k ⊢
      exact k
def sp_is_spot (K : PySem.W.Frag) : Sp := fun vs H Q _ => ∃ (t : Addr) (i j : Int), vs = [.ref t] ∧ T2 H t i j ∧ Q (.bl true) H
theorem ok_is_spot (E : TX K mg) : FnOk P w K mg base CX0 2 (a_is_spot K) (fdOf K (a_is_spot K)) P_is_spot (sp_is_spot K) := by
  refine (f_is_spot E).ok sc_is_spot (fun vs H Q E' h => ?_) (fun cdv A outer s H vs Q E' hr h => ?_)
  · obtain ⟨_, _, _, rfl, _⟩ := h; rfl
  · obtain ⟨t, i, j, rfl, ht, k⟩ := h
    refine ⟨_, PSs.nox (pss_one (ps_ret (pe_and (pe_callB call_isi (by rfl) (fr_isinstance (K := K) E) (by decide +kernel) (pa_cons (pv 0) (pa_cons (pe_bltn (v := .ty "tuple") (by rfl) (fr_tuple (K := K) E) (by decide +kernel) rfl) pa_nil))) (pe_and (pe_cmpR op_eq (pe_callB call_len_seq (by rfl) (fr_len (K := K) E) boot_len (pa_cons (pv 0) pa_nil)) pe_int (nomark _)) (pe_and (pe_call (ok_is_integer (K := K) E) (hr.mono (by decide)) rfl (g_is_integer (K := K) E) (k_is_integer (K := K) E) (b_is_integer (K := K) E) .nil pass0 (pa_cons (pe_ix ix_tup (pv 0) pe_int (fun _ _ => rfl)) pa_nil)) (pe_one (pe_call (ok_is_integer (K := K) E) (hr.mono (by decide)) rfl (g_is_integer (K := K) E) (k_is_integer (K := K) E) (b_is_integer (K := K) E) .nil pass0 (pa_cons (pe_ix ix_tup (pv 0) pe_int (fun _ _ => rfl)) pa_nil)))))))), ?_⟩
    refine ⟨_, rfl, _, _, _, _, _, rfl, .ty _, .base (.tup ht), kit_ty (r := true) (by decide +kernel), _, rfl, ?_⟩
    refine ⟨_, rfl, _, _, rfl, .inr (t2_at ht), rfl, _, rfl, ?_⟩
    refine ⟨_, rfl, _, _, _, _, rfl, rfl, t2_at ht, rfl, _, rfl, _, rfl, ?_⟩
    exact ⟨_, rfl, _, _, _, _, rfl, rfl, t2_at ht, rfl, _, rfl, k⟩
def sp_is_kind (K : PySem.W.Frag) : Sp := fun vs H Q _ => ∃ z : Str, vs = [.str z] ∧ isK z ∧ Q (.bl true) H
theorem ok_is_kind (E : TX K mg) : FnOk P w K mg base CX0 1 (a_is_kind K) (fdOf K (a_is_kind K)) P_is_kind (sp_is_kind K) := by
  refine (f_is_kind E).ok sc_is_kind (fun vs H Q E' h => ?_) (fun cdv A outer s H vs Q E' hr h => ?_)
  · obtain ⟨_, rfl, _⟩ := h; rfl
  · obtain ⟨z, rfl, hz, k⟩ := h
    refine ⟨_, PSs.nox (pss_one (ps_ret (pe_and (pe_callB call_isi (by rfl) (fr_isinstance (K := K) E) (by decide +kernel) (pa_cons (pv 0) (pa_cons (pe_bltn (v := .ty "str") (by rfl) (fr_str (K := K) E) (by decide +kernel) rfl) pa_nil))) (pe_one (pe_cmpR op_in_seq (pv 0) (pe_glob (v := .ref (ga K "KINDS")) rfl (g_KINDS (K := K) E) rfl) (by rfl)))))), ?_⟩
    refine ⟨_, rfl, _, _, _, _, _, rfl, .ty _, .base (.str _), kit_ty (r := true) (by decide +kernel), _, rfl, ?_⟩
    refine iteT ⟨_, rfl, _, _, rfl, .inr (tupB_ok (exK_ok E).1 _), rfl, rfl, ?_⟩
    rcases hz with rfl | rfl | rfl | rfl <;> exact k
def sp_check_kind (K : PySem.W.Frag) : Sp := fun vs H Q _ => ∃ z : Str, vs = [.str z] ∧ isK z ∧ Q .non H
theorem ok_check_kind (E : TX K mg) : FnOk P w K mg base CX0 2 (a_check_kind K) (fdOf K (a_check_kind K)) P_check_kind (sp_check_kind K) := by
  refine (f_check_kind E).ok sc_check_kind (fun vs H Q E' h => ?_) (fun cdv A outer s H vs Q E' hr h => ?_)
  · obtain ⟨_, rfl, _⟩ := h; rfl
  · obtain ⟨z, rfl, hz, k⟩ := h
    refine ⟨_, PSs.nox (pss_one (ps_if (pt_not (pt_val (pe_call (ok_is_kind (K := K) E) (hr.mono (by decide)) rfl (g_is_kind (K := K) E) (k_is_kind (K := K) E) (b_is_kind (K := K) E) .nil pass0 (pa_cons (pv 0) pa_nil)))) (pss_one ps_never) pss_nil)), ?_⟩
    exact ⟨_, rfl, _, rfl, hz, _, rfl, k⟩
def sp_counts_columns (K : PySem.W.Frag) : Sp := fun vs H Q _ => ∃ z : Str, vs = [.str z] ∧ Q (.bl (cA z)) H
theorem ok_counts_columns (E : TX K mg) : FnOk P w K mg base CX0 1 (a_counts_columns K) (fdOf K (a_counts_columns K)) P_counts_columns (sp_counts_columns K) := by
  refine (f_counts_columns E).ok sc_counts_columns (fun vs H Q E' h => ?_) (fun cdv A outer s H vs Q E' hr h => ?_)
  · obtain ⟨_, rfl, _⟩ := h; rfl
  · obtain ⟨z, rfl, k⟩ := h
    refine ⟨_, PSs.nox (pss_one (ps_ret (pe_or (pe_cmpR op_eq (pv 0) pe_str (nomark _)) (pe_one (pe_cmpR op_eq (pv 0) pe_str (nomark _)))))), ?_⟩
    unfold cA at k
    refine ⟨_, rfl, rfl, _, rfl, ?_⟩
    by_cases e : V.str z = V.str "stock"
    · rw [decide_eq_true e] at k ⊢
      exact k
    · rw [decide_eq_false e] at k ⊢
      exact ⟨_, rfl, rfl, k⟩
def sp_counts_rows (K : PySem.W.Frag) : Sp := fun vs H Q _ => ∃ z : Str, vs = [.str z] ∧ Q (.bl (cB z)) H
theorem ok_counts_rows (E : TX K mg) : FnOk P w K mg base CX0 1 (a_counts_rows K) (fdOf K (a_counts_rows K)) P_counts_rows (sp_counts_rows K) := by
  refine (f_counts_rows E).ok sc_counts_rows (fun vs H Q E' h => ?_) (fun cdv A outer s H vs Q E' hr h => ?_)
  · obtain ⟨_, rfl, _⟩ := h; rfl
  · obtain ⟨z, rfl, k⟩ := h
    refine ⟨_, PSs.nox (pss_one (ps_ret (pe_or (pe_cmpR op_eq (pv 0) pe_str (nomark _)) (pe_one (pe_cmpR op_eq (pv 0) pe_str (nomark _)))))), ?_⟩
    unfold cB at k
    refine ⟨_, rfl, rfl, _, rfl, ?_⟩
    by_cases e : V.str z = V.str "wish"
    · rw [decide_eq_true e] at k ⊢
      exact k
    · rw [decide_eq_false e] at k ⊢
      exact ⟨_, rfl, rfl, k⟩
def sp_is_possible_pair (K : PySem.W.Frag) : Sp := fun vs H Q _ => ∃ (t : Addr) (i j : Nat), vs = [.ref t] ∧ T2 H t i j ∧ i ≤ 7 ∧ j ≤ 7 ∧ Q (.bl true) H
theorem ok_is_possible_pair (E : TX K mg) : FnOk P w K mg base CX0 3 (a_is_possible_pair K) (fdOf K (a_is_possible_pair K)) P_is_possible_pair (sp_is_possible_pair K) := by
  refine (f_is_possible_pair E).ok sc_is_possible_pair (fun vs H Q E' h => ?_) (fun cdv A outer s H vs Q E' hr h => ?_)
  · obtain ⟨_, _, _, rfl, _⟩ := h; rfl
  · obtain ⟨t, i, j, rfl, ht, hi, hj, k⟩ := h
    refine ⟨_, PSs.nox (pss_one (ps_ret (pe_and (pe_call (ok_is_spot (K := K) E) (hr.mono (by decide)) rfl (g_is_spot (K := K) E) (k_is_spot (K := K) E) (b_is_spot (K := K) E) .nil pass0 (pa_cons (pv 0) pa_nil)) (pe_and (pe_call (ok_is_between (K := K) E) (hr.mono (by decide)) rfl (g_is_between (K := K) E) (k_is_between (K := K) E) (b_is_between (K := K) E) .nil pass0 (pa_cons (pe_ix ix_tup (pv 0) pe_int (fun _ _ => rfl)) (pa_cons pe_int (pa_cons (pe_glob (v := .int 7) rfl (gi_GREATEST (K := K) E).choose_spec ⟨_, rfl⟩) pa_nil)))) (pe_one (pe_call (ok_is_between (K := K) E) (hr.mono (by decide)) rfl (g_is_between (K := K) E) (k_is_between (K := K) E) (b_is_between (K := K) E) .nil pass0 (pa_cons (pe_ix ix_tup (pv 0) pe_int (fun _ _ => rfl)) (pa_cons pe_int (pa_cons (pe_glob (v := .int 7) rfl (gi_GREATEST (K := K) E).choose_spec ⟨_, rfl⟩) pa_nil))))))))), ?_⟩
    refine ⟨_, rfl, _, _, _, rfl, ht, _, rfl, ?_⟩
    refine ⟨_, rfl, _, _, _, _, rfl, rfl, t2_at ht, rfl, _, _, _, rfl, ?_⟩
    rw [decide_eq_true (show (0 : Int) ≤ (i : Int) by omega), decide_eq_true (show (i : Int) ≤ 7 by omega)]
    refine ⟨_, rfl, _, rfl, _, _, _, _, rfl, rfl, t2_at ht, rfl, _, _, _, rfl, ?_⟩
    rw [decide_eq_true (show (0 : Int) ≤ (j : Int) by omega), decide_eq_true (show (j : Int) ≤ 7 by omega)]
    exact k
end
end K78
end
section
set_option Elab.async false
set_option linter.all false
set_option maxRecDepth 100000
set_option maxHeartbeats 4000000
namespace K78
open PySem PySem.Spec PyProof.Rows L2 He
/-! ### the heap's shapes -/
theorem Same.up {H0 H : Hp} {a : Addr} {o : HO} (s : Same H0 H) (h : H0 a = none) : Same H0 (upd H a o) := fun b u e => by
  rw [upd_ne (ne_of_none e h)]
  exact s b u e
theorem Same.new {H : Hp} {a : Addr} {o : HO} (h : H a = none) : Same H (upd H a o) := Same.up (Same.refl H) h
theorem Same.new0 {H0 H : Hp} {a : Addr} {o : HO} (s : Same H0 H) (h : H a = none) : Same H0 (upd H a o) := Same.up s (s.free h)
theorem Same.nn {H0 H : Hp} {a b : Addr} {o : HO} (s : Same H0 H) (h : H0 a = some o) (hb : H b = none) : a ≠ b := fun e => by
  have := s a o h
  rw [e, hb] at this
  cases this
/-- n values told by place -/
def rg (n : Nat) (f : Nat → V) : List V := (List.range n).map f
theorem rg_len (n : Nat) (f : Nat → V) : (rg n f).length = n := by unfold rg; rw [List.length_map, List.length_range]
theorem rg_at {n i : Nat} (f : Nat → V) (h : i < n) : (rg n f)[i]? = some (f i) := by
  unfold rg
  rw [List.getElem?_map, List.getElem?_range h]
  rfl
theorem rg_of {n i : Nat} {f : Nat → V} {v : V} (h : (rg n f)[i]? = some v) : i < n ∧ v = f i := by
  have hl : i < n := by
    have := (List.getElem?_eq_some_iff.mp h).1
    rw [rg_len] at this
    exact this
  rw [rg_at f hl] at h
  exact ⟨hl, (Option.some.inj h).symm⟩
theorem rg_congr {n : Nat} {f g : Nat → V} (h : ∀ i, i < n → f i = g i) : rg n f = rg n g := by
  unfold rg
  exact List.map_congr_left fun i hi => h i (List.mem_range.mp hi)
theorem rg_snoc (n : Nat) (f : Nat → V) : rg n f ++ [f n] = rg (n + 1) f := by
  unfold rg
  rw [List.range_succ, List.map_append]
  rfl
theorem rg_snoc' (n : Nat) (f : Nat → V) (x : V) : rg n f ++ [x] = rg (n + 1) (fun k => if k = n then x else f k) := by
  rw [← rg_snoc]
  rw [if_pos rfl]
  congr 1
  exact rg_congr fun i hi => (if_neg (Nat.ne_of_lt hi)).symm
theorem rg_ext {xs : List V} {n : Nat} {f : Nat → V} (hl : xs.length = n) (h : ∀ i, i < n → xs[i]? = some (f i)) : xs = rg n f := by
  apply List.ext_getElem?
  intro i
  by_cases hi : i < n
  · rw [h i hi, rg_at f hi]
  · rw [List.getElem?_eq_none (by omega), List.getElem?_eq_none (by rw [rg_len]; omega)]
theorem rg_set (n : Nat) (f : Nat → V) (i : Nat) (x : V) : (rg n f).set i x = rg n (fun k => if k = i then x else f k) := by
  refine rg_ext (by rw [List.length_set, rg_len]) fun k hk => ?_
  rw [List.getElem?_set]
  by_cases e : i = k
  · rw [if_pos e, rg_len, if_pos (e ▸ hk), if_pos e.symm]
  · rw [if_neg e, rg_at f hk, if_neg fun z => e z.symm]
theorem rg_ints (n : Nat) (f : Nat → Int) : rg n (fun i => .int (f i)) = ((List.range n).map f).map V.int := by
  unfold rg
  rw [List.map_map]
  rfl
theorem rg_take (n k : Nat) (f : Nat → V) (h : k ≤ n) : (rg n f).take k = rg k f := by
  refine rg_ext (by rw [List.length_take, rg_len]; omega) fun i hi => ?_
  rw [List.getElem?_take, if_pos hi, rg_at f (by omega)]
theorem rg_drop (n k : Nat) (f : Nat → V) : (rg n f).drop k = rg (n - k) (fun i => f (k + i)) := by
  refine rg_ext (by rw [List.length_drop, rg_len]) fun i hi => ?_
  rw [List.getElem?_drop, rg_at f (by omega)]
theorem atR {n i : Nat} (f : Nat → V) (h : i < n) : atI (rg n f) (i : Int) = some (f i) := atI_nat (rg_at f h)
theorem rg_atI {n : Nat} {i : Int} (f : Nat → V) (h0 : 0 ≤ i) (h : i < n) : atI (rg n f) i = some (f i.toNat) := by
  obtain ⟨k, rfl⟩ := Int.eq_ofNat_of_zero_le h0
  exact atR f (by omega)
abbrev IntsAt (H : Hp) (a : Addr) (n : Nat) (f : Nat → Int) : Prop := H a = some (.lst (rg n fun i => .int (f i)))
/-- None or a whole number -/
def ov : Option Int → V
  | none => .non
  | some x => .int x
abbrev RowAt (H : Hp) (a : Addr) (n : Nat) (f : Nat → Option Int) : Prop := H a = some (.lst (rg n fun i => ov (f i)))
/-- m rows of n -/
structure RowsAt (H : Hp) (g : Addr) (m n : Nat) (f : Nat → Nat → V) (r : Nat → Addr) : Prop where
  o : H g = some (.lst (rg m fun i => .ref (r i)))
  r : ∀ i, i < m → H (r i) = some (.lst (rg n (f i)))
abbrev GridAt (H : Hp) (g : Addr) (m n : Nat) (c : Nat → Nat → Option Int) : Prop := ∃ r, RowsAt H g m n (fun i j => ov (c i j)) r
theorem RowsAt.same {H H' : Hp} {g : Addr} {m n : Nat} {f : Nat → Nat → V} {r : Nat → Addr} (h : RowsAt H g m n f r) (s : Same H H') : RowsAt H' g m n f r := ⟨s _ _ h.o, fun i hi => s _ _ (h.r i hi)⟩
theorem GridAt.same {H H' : Hp} {g : Addr} {m n : Nat} {c : Nat → Nat → Option Int} (h : GridAt H g m n c) (s : Same H H') : GridAt H' g m n c := let ⟨r, h⟩ := h; ⟨r, h.same s⟩
/-- a list of rows on its way, new since H0 -/
structure Part (H0 H : Hp) (D : Addr) (i n : Nat) (f : Nat → Nat → V) (r : Nat → Addr) : Prop where
  s : Same H0 H
  o : H D = some (.lst (rg i fun j => .ref (r j)))
  fr : ∀ j, j < i → H0 (r j) = none
  inj : ∀ j k, j < i → k < i → r j = r k → j = k
  r : ∀ j, j < i → r j ≠ D ∧ H (r j) = some (.lst (rg n (f j)))
theorem Part.nil {H : Hp} {D : Addr} {n : Nat} {f : Nat → Nat → V} (hD : H D = none) : Part H (upd H D (.lst [])) D 0 n f (fun _ => 0) :=
  ⟨Same.new hD, upd_same, fun j hj => absurd hj (Nat.not_lt_zero _), fun j k hj => absurd hj (Nat.not_lt_zero _), fun j hj => absurd hj (Nat.not_lt_zero _)⟩
theorem Part.step {H0 H H1 : Hp} {D l : Addr} {i n : Nat} {f : Nat → Nat → V} {r : Nat → Addr} (p : Part H0 H D i n f r) (hD : H0 D = none) (s1 : Same H H1) (hl : H l = none) (hr : H1 l = some (.lst (rg n (f i)))) :
    Part H0 (upd H1 D (.lst (rg i (fun j => .ref (r j)) ++ [.ref l]))) D (i + 1) n f (fun j => if j = i then l else r j) := by
  have nDl : D ≠ l := ne_of_none p.o hl
  have old : ∀ j, j < i → (if j = i then l else r j) = r j := fun j hj => if_neg (Nat.ne_of_lt hj)
  have nl : ∀ j, j < i → r j ≠ l := fun j hj => ne_of_none (p.r j hj).2 hl
  refine ⟨Same.up (p.s.trans s1) hD, ?_, fun j hj => ?_, fun j k hj hk e => ?_, fun j hj => ?_⟩
  · rw [upd_same, rg_snoc']
    congr 2
    exact rg_congr fun j _ => by by_cases e : j = i <;> simp [e]
  · show H0 (if j = i then l else r j) = none
    by_cases e : j = i
    · rw [if_pos e]; exact p.s.free hl
    · rw [if_neg e]; exact p.fr j (by omega)
  · have e : (if j = i then l else r j) = (if k = i then l else r k) := e
    by_cases e1 : j = i
    · by_cases e2 : k = i
      · omega
      · rw [if_pos e1, if_neg e2] at e
        exact absurd e.symm (nl k (by omega))
    · by_cases e2 : k = i
      · rw [if_neg e1, if_pos e2] at e
        exact absurd e (nl j (by omega))
      · rw [if_neg e1, if_neg e2] at e
        exact p.inj j k (by omega) (by omega) e
  · by_cases e : j = i
    · subst e
      have e1 : (if j = j then l else r j) = l := if_pos rfl
      show (if j = j then l else r j) ≠ D ∧ _
      rw [e1]
      exact ⟨nDl.symm, (upd_ne nDl.symm).trans hr⟩
    · show (if j = i then l else r j) ≠ D ∧ upd _ _ _ (if j = i then l else r j) = _
      rw [if_neg e]
      obtain ⟨h1, h2⟩ := p.r j (by omega)
      exact ⟨h1, (upd_ne h1).trans (s1 _ _ h2)⟩
theorem Part.rows {H0 H : Hp} {D : Addr} {m n : Nat} {f : Nat → Nat → V} {r : Nat → Addr} (p : Part H0 H D m n f r) : RowsAt H D m n f r := ⟨p.o, fun i hi => (p.r i hi).2⟩
/-! lists of pairs -/
abbrev Pr := Nat × Nat
def P2 (H : Hp) (ts : List Addr) (L : List Pr) : Prop := ts.length = L.length ∧ ∀ (k : Nat) (t : Addr) (q : Pr), ts[k]? = some t → L[k]? = some q → T2 H t q.1 q.2
theorem P2.same {H H' : Hp} {ts : List Addr} {L : List Pr} (h : P2 H ts L) (s : Same H H') : P2 H' ts L := ⟨h.1, fun k t q e1 e2 => s _ _ (h.2 k t q e1 e2)⟩
theorem P2.map {H H' : Hp} {ts : List Addr} {L : List Pr} (h : P2 H ts L) (s : ∀ t i j, T2 H t i j → T2 H' t i j) : P2 H' ts L := ⟨h.1, fun k t q e1 e2 => s _ _ _ (h.2 k t q e1 e2)⟩
theorem P2.nil (H : Hp) : P2 H [] [] := ⟨rfl, fun _ _ _ e => nomatch e⟩
theorem P2.at_ {H : Hp} {ts : List Addr} {L : List Pr} (h : P2 H ts L) {k : Nat} {q : Pr} (e : L[k]? = some q) : ∃ t, ts[k]? = some t ∧ T2 H t q.1 q.2 := by
  have hk : k < ts.length := by
    rw [h.1]
    exact (List.getElem?_eq_some_iff.mp e).1
  exact ⟨ts[k], List.getElem?_eq_getElem hk, h.2 k _ q (List.getElem?_eq_getElem hk) e⟩
theorem P2.of {H : Hp} {ts : List Addr} {L : List Pr} (h : P2 H ts L) {k : Nat} {t : Addr} (e : ts[k]? = some t) : ∃ q, L[k]? = some q ∧ T2 H t q.1 q.2 := by
  have hk : k < L.length := by
    rw [← h.1]
    exact (List.getElem?_eq_some_iff.mp e).1
  exact ⟨L[k], List.getElem?_eq_getElem hk, h.2 k t _ e (List.getElem?_eq_getElem hk)⟩
theorem P2.snoc {H : Hp} {ts : List Addr} {L : List Pr} (h : P2 H ts L) {t : Addr} {q : Pr} (e : T2 H t q.1 q.2) : P2 H (ts ++ [t]) (L ++ [q]) := by
  refine ⟨by rw [List.length_append, List.length_append, h.1]; rfl, fun k t' q' e1 e2 => ?_⟩
  by_cases hk : k < L.length
  · rw [List.getElem?_append_left (by rw [h.1]; exact hk)] at e1
    rw [List.getElem?_append_left hk] at e2
    exact h.2 k t' q' e1 e2
  · have h1 := (List.getElem?_eq_some_iff.mp e2).1
    rw [List.length_append, List.length_singleton] at h1
    have h2 : k = L.length := by omega
    subst h2
    rw [List.getElem?_append_right (by rw [h.1]; exact Nat.le_refl _), h.1, Nat.sub_self] at e1
    rw [List.getElem?_append_right (Nat.le_refl _), Nat.sub_self] at e2
    cases e1
    cases e2
    exact e
theorem P2.set {H : Hp} {ts : List Addr} {L : List Pr} (h : P2 H ts L) {t : Addr} {q : Pr} (k : Nat) (e : T2 H t q.1 q.2) : P2 H (ts.set k t) (L.set k q) := by
  refine ⟨by rw [List.length_set, List.length_set, h.1], fun j t' q' e1 e2 => ?_⟩
  rw [List.getElem?_set] at e1 e2
  by_cases hk : k = j
  · subst hk
    rw [if_pos rfl] at e1 e2
    rw [h.1] at e1
    by_cases hl : k < L.length
    · rw [if_pos hl] at e1 e2
      cases e1
      cases e2
      exact e
    · rw [if_neg hl] at e2
      cases e2
  · rw [if_neg hk] at e1 e2
    exact h.2 j t' q' e1 e2
def PairsAt (H : Hp) (a : Addr) (L : List Pr) : Prop := ∃ ts : List Addr, H a = some (.lst (ts.map V.ref)) ∧ P2 H ts L
theorem PairsAt.same {H H' : Hp} {a : Addr} {L : List Pr} (h : PairsAt H a L) (s : Same H H') : PairsAt H' a L := let ⟨ts, e, p⟩ := h; ⟨ts, s _ _ e, p.same s⟩
theorem map_ref_at {ts : List Addr} {k : Nat} {v : V} (e : (ts.map V.ref)[k]? = some v) : ∃ t, ts[k]? = some t ∧ v = .ref t := by
  rw [List.getElem?_map] at e
  cases h : ts[k]? with
  | none => rw [h] at e; cases e
  | some t => rw [h] at e; exact ⟨t, rfl, (Option.some.inj e).symm⟩
theorem map_ref_snoc (ts : List Addr) (t : Addr) : ts.map V.ref ++ [.ref t] = (ts ++ [t]).map V.ref := by rw [List.map_append]; rfl
theorem map_ref_set (ts : List Addr) (k : Nat) (t : Addr) : (ts.map V.ref).set k (.ref t) = (ts.set k t).map V.ref := by rw [List.map_set]
/-! dicts whose keys are pairs -/
def ky (q : Pr) : List Key := [Sum.inl (q.1 : Int), Sum.inl (q.2 : Int)]
theorem ky_inj {q r : Pr} (h : ky q = ky r) : q = r := by
  unfold ky at h
  injection h with h1 h2
  injection h2 with h2 _
  have e1 := Sum.inl.inj h1
  have e2 := Sum.inl.inj h2
  exact Prod.ext (by omega) (by omega)
theorem ky_tup {H : Hp} {t : Addr} {q : Pr} (h : T2 H t q.1 q.2) : H t = some (.tup ((ky q).map kV)) := h
def dm (L : List Pr) (f : Pr → V) : List (List Key × V) := L.map fun q => (ky q, f q)
theorem dm_len (L : List Pr) (f : Pr → V) : (dm L f).length = L.length := by unfold dm; rw [List.length_map]
theorem dm_congr {L : List Pr} {f g : Pr → V} (h : ∀ q ∈ L, f q = g q) : dm L f = dm L g := by
  unfold dm
  exact List.map_congr_left fun q hq => by rw [h q hq]
theorem dm_val (L : List Pr) (f : Pr → V) (q : Pr) : valV (dm L f) (ky q) = if q ∈ L then some (f q) else none := by
  induction L with
  | nil => rfl
  | cons r L ih =>
    show valV ((ky r, f r) :: dm L f) (ky q) = _
    by_cases e : r = q
    · subst e
      rw [valV_pos rfl, if_pos List.mem_cons_self]
    · rw [valV_neg fun z => e (ky_inj z), ih]
      by_cases hq : q ∈ L
      · rw [if_pos hq, if_pos (List.mem_cons_of_mem _ hq)]
      · rw [if_neg hq, if_neg fun z => by
          rcases List.mem_cons.mp z with z | z
          · exact e z.symm
          · exact hq z]
theorem dm_put_new {L : List Pr} {f : Pr → V} {q : Pr} (h : q ∉ L) : putK (dm L f) (ky q) (f q) = dm (L ++ [q]) f := by
  rw [putK_new _ (by rw [dm_val, if_neg h])]
  unfold dm
  rw [List.map_append]
  rfl
theorem dm_put_any {L : List Pr} {f : Pr → V} {q : Pr} (h : q ∉ L) (v : V) : putK (dm L f) (ky q) v = dm (L ++ [q]) (fun r => if r = q then v else f r) := by
  rw [← dm_put_new (f := fun r => if r = q then v else f r) h, dm_congr (f := f) (g := fun r => if r = q then v else f r) (fun r hr => by
    show f r = if r = q then v else f r
    rw [if_neg (show ¬ r = q from fun z => h (by rw [← z]; exact hr))])]
  show _ = putK _ _ (if q = q then v else f q)
  rw [if_pos rfl]
theorem dm_put {L : List Pr} {f : Pr → V} {q : Pr} (h : q ∈ L) (v : V) : putK (dm L f) (ky q) v = dm L (fun r => if r = q then v else f r) := by
  unfold putK
  rw [valV_any, dm_val, if_pos h]
  show (if true = true then _ else _) = _
  rw [if_pos rfl]
  unfold dm
  rw [List.map_map]
  refine List.map_congr_left fun r _ => ?_
  show (if ky r = ky q then (ky r, v) else (ky r, f r)) = (ky r, if r = q then v else f r)
  by_cases e : r = q
  · rw [if_pos e, if_pos (by rw [e])]
  · rw [if_neg e, if_neg fun z => e (ky_inj z)]
theorem dm_drop (L : List Pr) (f : Pr → V) (q : Pr) : dropK (dm L f) (ky q) = dm (L.filter fun r => decide (r ≠ q)) f := by
  unfold dropK dm
  rw [List.filter_map]
  congr 1
  refine List.filter_congr fun r _ => ?_
  show decide (ky r ≠ ky q) = decide (r ≠ q)
  by_cases e : r = q
  · rw [decide_eq_false (fun z => z (by rw [e])), decide_eq_false fun z => z e]
  · rw [decide_eq_true (show ky r ≠ ky q from fun z => e (ky_inj z)), decide_eq_true (show r ≠ q from e)]
abbrev DmAt (H : Hp) (d : Addr) (L : List Pr) (f : Pr → V) : Prop := H d = some (.dT (dm L f))
theorem dm_get {H : Hp} {d t : Addr} {L : List Pr} {f : Pr → V} {q : Pr} (h : DmAt H d L f) (ht : T2 H t q.1 q.2) : DGet H d (.ref t) (if q ∈ L then some (f q) else none) := by
  rw [← dm_val]
  exact DGet.t h ht
theorem dm_get_in {H : Hp} {d t : Addr} {L : List Pr} {f : Pr → V} {q : Pr} (h : DmAt H d L f) (ht : T2 H t q.1 q.2) (hq : q ∈ L) : DGet H d (.ref t) (some (f q)) := by
  have := dm_get h ht
  rw [if_pos hq] at this
  exact this
/-- the keys of a dict, as a list of pairs -/
theorem dm_keys {H : Hp} {L : List Pr} {f : Pr → V} {bs : List Addr} (h : IsKeys H (dm L f) bs) : P2 H bs L := by
  unfold IsKeys dm at h
  have hl := Paired.length h
  rw [List.length_map] at hl
  refine ⟨hl.symm, fun k t q e1 e2 => ?_⟩
  clear hl
  induction L generalizing bs k with
  | nil => cases e2
  | cons r L ih =>
    cases h with
    | cons h1 h2 =>
      cases k with
      | zero =>
        cases e1
        cases e2
        exact h1
      | succ k => exact ih h2 k e1 e2
end K78
end
section
set_option Elab.async false
set_option linter.all false
set_option maxRecDepth 100000
set_option maxHeartbeats 4000000
namespace K78
open PySem PySem.Spec PyProof.Rows L2 He
section
variable {P : Program} {w : World} {K : PySem.W.Frag} {mg : Str → Option Value} {base : Heap}
/-! ### Order -/
def SameX (p : Addr) (H H' : Hp) : Prop := ∀ b o, H b = some o → b ≠ p → H' b = some o
theorem SameX.up {p a : Addr} {H0 H : Hp} {o : HO} (s : SameX p H0 H) (h : H0 a = none ∨ a = p) : SameX p H0 (upd H a o) := fun b u e hb => by
  have : b ≠ a := by
    rcases h with h | h
    · exact ne_of_none e h
    · rw [h]; exact hb
  rw [upd_ne this]
  exact s b u e hb
theorem SameX.refl (p : Addr) (H : Hp) : SameX p H H := fun _ _ e _ => e
theorem SameX.free {p a : Addr} {H0 H : Hp} (s : SameX p H0 H) (h : H a = none) (ha : a ≠ p) : H0 a = none := by
  cases q : H0 a with
  | none => rfl
  | some o => rw [s a o q ha] at h; cases h
def ordF (l d : Addr) : List (Str × V) := [("listed", V.ref l), ("spots", V.ref d)]
def OrdAt (K : PySem.W.Frag) (H : Hp) (p : Addr) (L : List Pr) : Prop := ∃ dx l d, H p = some (.ins (c_Order K) dx (ordF l d)) ∧ PairsAt H l L
theorem OrdAt.same {H H' : Hp} {p : Addr} {L : List Pr} (h : OrdAt K H p L) (s : Same H H') : OrdAt K H' p L := let ⟨dx, l, d, e, q⟩ := h; ⟨dx, l, d, s _ _ e, q.same s⟩
def small (L : List Pr) : Prop := L.length ≤ 64 ∧ L.Nodup ∧ ∀ q ∈ L, q.1 ≤ 7 ∧ q.2 ≤ 7
theorem nodup_take_not_mem {α : Type} {L : List α} (h : L.Nodup) {i : Nat} {q : α} (e : L[i]? = some q) : q ∉ L.take i := fun hm => by
  obtain ⟨j, hj, e2⟩ := List.mem_iff_getElem.mp hm
  rw [List.length_take] at hj
  rw [List.getElem_take] at e2
  obtain ⟨hi, e3⟩ := List.getElem?_eq_some_iff.mp e
  have := (List.getElem_inj h).mp (e2.trans e3.symm)
  omega
def sp_Order__init__ (K : PySem.W.Frag) : Sp := fun vs H Q _ => ∃ (p dx a : Addr) (L : List Pr), vs = [.ref p, .ref a] ∧ H p = some (.ins (c_Order K) dx []) ∧ PairsAt H a L ∧ small L ∧ ∀ H', SameX p H H' → OrdAt K H' p L → Q .non H'
theorem ok_Order__init__ (E : TX K mg) : FnOk P w K mg base CX0 4 (a_Order__init__ K) (fdOf K (a_Order__init__ K)) P_Order__init__ (sp_Order__init__ K) := by
  refine (f_Order__init__ E).ok sc_Order__init__ (fun vs H Q E' h => ?_) (fun cdv A outer s H vs Q E' hr h => ?_)
  · obtain ⟨_, _, _, _, rfl, _⟩ := h; rfl
  · obtain ⟨p, dx, a, L, rfl, hp, ⟨ts, ha, hts⟩, ⟨hl, hnd, hsm⟩, k⟩ := h
    refine ⟨_, PSs.nox (pss_cons (ps_if (PW.pt (pw_or (pt_not (pt_val (pe_callB call_isi (by rfl) (fr_isinstance (K := K) E) (by decide +kernel) (pa_cons (pv 1) (pa_cons (pe_bltn (v := .ty "list") (by rfl) (fr_list (K := K) E) (by decide +kernel) rfl) pa_nil))))) (pw_or1 (pt_cmpR op_gt (pe_callB call_len_seq (by rfl) (fr_len (K := K) E) boot_len (pa_cons (pv 1) pa_nil)) (pe_glob (v := .int 64) rfl (gi_LONGEST (K := K) E).choose_spec ⟨_, rfl⟩) (nomark _))))) (pss_one ps_never) pss_nil)
    (pss_cons (ps_fld (pv 0) (pe_lst pa_nil) rfl)
    (pss_cons (ps_fld (pv 0) pe_dnewT rfl)
    (pss_one (ps_for PassesOwn.never rfl (pi_enum rfl (fr_enumerate (K := K) E) (pa_cons (pv 1) pa_nil)) (pg_tup rfl (pgs_cons (pg_name (i := 2) sc_Order__init__.nd rfl (Or.inl rfl)) (pgs_cons (pg_name (i := 3) sc_Order__init__.nd rfl (Or.inl rfl)) pgs_nil)))
    (pss_cons (ps_if (PW.pt (pw_or (pt_not (pt_val (pe_call (ok_is_possible_pair (K := K) E) (hr.mono (by decide)) rfl (g_is_possible_pair (K := K) E) (k_is_possible_pair (K := K) E) (b_is_possible_pair (K := K) E) .nil pass0 (pa_cons (pv 3) pa_nil)))) (pw_or1 (pt_cmp (pc_din (hu_of hr) (pv 3) (pe_fld (pv 0) rfl)))))) (pss_one ps_never) pss_nil)
    (pss_cons (ps_dput (hu_of hr) (pe_fld (pv 0) rfl) (pv 3) (pv 2) rfl)
    (pss_one (ps_expr (pe_bm PySem.F.plainAttrs_list PySem.F.slot_list_append PySem.F.type_list_append mt_append (pe_fld (pv 0) rfl) (pa_cons (pv 3) pa_nil))))))))))), ?_⟩
    refine ⟨_, rfl, _, _, _, _, _, rfl, .ty _, .base (.lst ha), kit_ty (r := true) (by decide +kernel), _, rfl, ?_⟩
    refine ⟨_, rfl, _, _, rfl, .inl (SqL.of ha), _, _, rfl, rfl, _, rfl, ?_⟩
    rw [decide_eq_false (by rw [List.length_map, hts.1]; omega)]
    refine iteF ?_
    refine ⟨Nat.zero_le _, fun l hl0 => ?_⟩
    have npl : p ≠ l := ne_of_none hp hl0
    refine ⟨_, rfl, p, _, dx, [], rfl, (by rw [upd_ne npl]; exact hp), cl_Order E, na_Order_listed E, (by show 0 < 1000; decide), ?_⟩
    intro d hd
    have npd : p ≠ d := fun e => by rw [← e, upd_same] at hd; cases hd
    have hd0 : upd H l (.lst []) d = none := by rw [upd_ne npd.symm] at hd; exact hd
    have nld : l ≠ d := fun e => by rw [← e, upd_same] at hd0; cases hd0
    have hd1 : H d = none := by rw [upd_ne nld.symm] at hd0; exact hd0
    refine ⟨_, rfl, p, _, dx, _, rfl, (by rw [upd_ne npd]; exact upd_same), cl_Order E, na_Order_spots E, (by show 1 < 1000; decide), ?_⟩
    refine ⟨_, rfl, a, _, rfl, SqL.of (by
      have nap : a ≠ p := ne_of ha hp (by intro z; cases z)
      rw [upd_ne nap, upd_ne (ne_of_none ha hd1), upd_ne nap, upd_ne (ne_of_none ha hl0)]
      exact ha), ?_⟩
    refine for_it (walk_enum (xs := ts.map V.ref)) (fun i σ H' => ∃ v1 v2 f, σ = [some (.ref p), some (.ref a), v1, v2] ∧ SameX p H H' ∧ H' p = some (.ins (c_Order K) dx (ordF l d)) ∧ H' l = some (.lst ((ts.take i).map V.ref)) ∧ DmAt H' d (L.take i) f)
      ⟨none, none, fun _ => .non, rfl, ?_, upd_same, ?_, ?_⟩ (fun i σ H' hi ⟨v1, v2, f, e, sx, _⟩ => SqL.of (sx _ _ ha (ne_of ha hp (by intro z; cases z)))) ?_ ?_
    · exact SameX.up (SameX.up (SameX.up (SameX.up (SameX.refl p H) (.inl hl0)) (.inr rfl)) (.inl hd1)) (.inr rfl)
    · rw [upd_ne npl.symm, upd_ne nld, upd_ne npl.symm, upd_same]; rfl
    · show upd _ _ _ _ = _
      rw [upd_ne npd.symm, upd_same]; rfl
    · rintro i x σ H' H'' hi ⟨v1, v2, f, rfl, sx, h1, h2, h3⟩ ⟨T, y1, y2, rfl, hT, rfl, e1, e2⟩
      cases e1
      rw [List.length_map] at hi
      obtain ⟨t, et, rfl⟩ := map_ref_at e2
      obtain ⟨q, eq, hq⟩ := hts.of et
      have hq1 : T2 H' t q.1 q.2 := sx _ _ hq (ne_of hq hp (by intro z; cases z))
      refine ⟨_, _, rfl, .inl (.inl upd_same), rfl, ?_⟩
      refine ⟨_, _, rfl, _, _, rfl, rfl, ?_⟩
      have nT : ∀ {b : Addr} {o : HO}, H' b = some o → b ≠ T := fun e => ne_of_none e hT
      have sT : Same H' (upd H' T (.tup [.int (i : Int), .ref t])) := Same.new hT
      obtain ⟨h7a, h7b⟩ := hsm q (List.mem_of_getElem? eq)
      have hq2 := sT _ _ hq1
      have h1' := sT _ _ h1
      have h2' := sT _ _ h2
      have h3' := sT _ _ h3
      have hnew : q ∉ L.take i := nodup_take_not_mem hnd eq
      refine ⟨_, rfl, t, q.1, q.2, rfl, hq2, h7a, h7b, _, rfl, ?_⟩
      refine ⟨_, rfl, _, rfl, p, _, dx, _, _, rfl, h1', cl_Order E, na_Order_spots E, rfl, d, none, rfl, ?_, _, rfl, ?_⟩
      · have := dm_get h3' hq2
        rw [if_neg hnew] at this
        exact this
      have hsz : (dm (L.take i) f).length < sizeLine := by
        rw [dm_len, List.length_take]
        exact Nat.lt_of_le_of_lt (Nat.le_trans (Nat.min_le_right _ _) hl) (by decide)
      refine ⟨_, rfl, _, rfl, p, _, dx, _, _, rfl, h1', cl_Order E, na_Order_spots E, rfl, _, rfl, d, _, rfl, DPut.t h3' (ky_tup hq2) hsz, ?_⟩
      have npd' : p ≠ d := npd
      have nlT : l ≠ T := nT h2
      refine ⟨_, rfl, p, _, dx, _, _, rfl, (upd_ne npd).trans h1', cl_Order E, na_Order_listed E, rfl, .inl ⟨rfl, _, SqL.of ((upd_ne nld).trans h2')⟩, _, rfl, l, _, _, rfl, rfl, (upd_ne nld).trans h2', ?_, ?_⟩
      · rw [List.length_map, List.length_take]
        exact Nat.lt_of_le_of_lt (Nat.le_trans (Nat.min_le_right _ _) (by rw [hts.1]; exact hl)) (by decide)
      · refine ⟨_, _, fun r => if r = q then .int (i : Int) else f r, rfl, ?_, ?_, ?_, ?_⟩
        · refine SameX.up (SameX.up (fun b o e hb => sT _ _ (sx b o e hb)) (.inl hd1)) (.inl hl0)
        · rw [upd_ne npl]
          exact (upd_ne npd).trans h1'
        · rw [upd_same, map_ref_snoc, List.take_add_one, et]; rfl
        · show upd _ _ _ _ = _
          rw [upd_ne nld.symm, upd_same, dm_put_any hnew, List.take_add_one, eq]; rfl
    · rintro σ H' ⟨v1, v2, f, rfl, sx, h1, h2, h3⟩
      refine k H' sx ⟨dx, l, d, h1, ts, ?_, hts.1, fun k t q e1 e2 => sx _ _ (hts.2 k t q e1 e2) (ne_of (hts.2 k t q e1 e2) hp (by intro z; cases z))⟩
      rw [List.length_map, List.take_length] at h2
      exact h2
end
end K78
end
section
set_option Elab.async false
set_option linter.all false
set_option maxRecDepth 100000
set_option maxHeartbeats 4000000
namespace K78
open PySem PySem.Spec PyProof.Rows L2 He
/-- a walk within a comprehension, whatever a turn does -/
theorem walk_go {J : It} {n : Nat} {G : Hp → Prop} {Y : Nat → Hp → V → Hp → Prop} (w : Walk J n G Y) {Body : V → Hp → (Hp → Prop) → Prop} {Nx : Hp → Prop} {H1 : Hp} (Pv : Nat → Hp → Prop) (h0 : Pv 0 H1) (hG : ∀ i H, i ≤ n → Pv i H → G H)
    (hs : ∀ i x H H', i < n → Pv i H → Y i H x H' → Body x H' (Pv (i + 1))) (hd : ∀ H, Pv n H → Nx H) :
    ∃ W : Nat → Nat → Hp → Prop, (∃ m, W 0 m H1) ∧ ∀ i m H, W i m H → (J.stop i H ∧ Nx H) ∨ (J.go i H ∧ ∃ N : Hp → Prop, (∀ H', N H' → ∃ m', m' < m ∧ W (i + 1) m' H') ∧ ∀ x H', J.yld i H x H' → Body x H' N) := by
  refine ⟨fun i m H => m = n - i ∧ i ≤ n ∧ Pv i H, ⟨n, by simp, Nat.zero_le _, h0⟩, ?_⟩
  rintro i m H ⟨rfl, hi, p⟩
  have q := hG i H hi p
  by_cases hlt : i < n
  · exact .inr ⟨w.goes i H hlt q, Pv (i + 1), fun H' p' => ⟨n - (i + 1), by omega, rfl, hlt, p'⟩, fun x H' y => hs i x H H' hlt p (w.yields i H x H' hlt q y)⟩
  · have e : i = n := by omega
    subst e
    exact .inl ⟨w.stops H q, hd H p⟩
theorem walk_rg {n : Nat} : Walk (Itr 0 n) n (fun _ => True) (YFn fun i => .int (i : Int)) :=
  walk_range.mono (fun _ _ => trivial) fun i H x H' _ _ y => ⟨y.1, by
    have e := y.2
    rw [show (fun i : Nat => V.int (0 + (i : Int))) i = V.int (0 + (i : Int)) from rfl, Int.zero_add] at e
    exact e⟩
/-- an if whose ways go on alike -/
theorem ifs_go {b : Bool} {t u : TS} {D : Ends} {σ : L2.St} {H : Hp} (PP : L2.St → Hp → Prop) (h1 : b = true → (∀ σ H, PP σ H → D.nx σ H) → t D σ H) (h2 : b = false → (∀ σ H, PP σ H → D.nx σ H) → u D σ H) (rest : ∀ σ H, PP σ H → D.nx σ H) :
    if b = true then t D σ H else u D σ H := by
  cases b with
  | true => exact iteT (h1 rfl rest)
  | false => exact iteF (h2 rfl rest)
section
variable {P : Program} {w : World} {K : PySem.W.Frag} {mg : Str → Option Value} {base : Heap}
def sp_Order__len__ (K : PySem.W.Frag) : Sp := fun vs H Q _ => ∃ (p : Addr) (L : List Pr), vs = [.ref p] ∧ OrdAt K H p L ∧ Q (.int (L.length : Int)) H
theorem ok_Order__len__ (E : TX K mg) : FnOk P w K mg base CX0 1 (a_Order__len__ K) (fdOf K (a_Order__len__ K)) P_Order__len__ (sp_Order__len__ K) := by
  refine (f_Order__len__ E).ok sc_Order__len__ (fun vs H Q E' h => ?_) (fun cdv A outer s H vs Q E' hr h => ?_)
  · obtain ⟨_, _, rfl, _⟩ := h; rfl
  · obtain ⟨p, L, rfl, ⟨dx, l, d, hp, ts, hl, hts⟩, k⟩ := h
    refine ⟨_, PSs.nox (pss_one (ps_ret (pe_callB call_len_seq (by rfl) (fr_len (K := K) E) boot_len (pa_cons (pe_fld (pv 0) rfl) pa_nil)))), ?_⟩
    refine ⟨_, rfl, p, _, dx, _, _, rfl, hp, cl_Order E, na_Order_listed E, rfl, _, _, rfl, .inl (SqL.of hl), ?_⟩
    rw [List.length_map, hts.1]
    exact k
def sp_Order_pairs (K : PySem.W.Frag) : Sp := fun vs H Q _ => ∃ (p : Addr) (L : List Pr), vs = [.ref p] ∧ OrdAt K H p L ∧ ∀ H' a, Same H H' → H a = none → PairsAt H' a L → Q (.ref a) H'
theorem ok_Order_pairs (E : TX K mg) : FnOk P w K mg base CX0 1 (a_Order_pairs K) (fdOf K (a_Order_pairs K)) P_Order_pairs (sp_Order_pairs K) := by
  refine (f_Order_pairs E).ok sc_Order_pairs (fun vs H Q E' h => ?_) (fun cdv A outer s H vs Q E' hr h => ?_)
  · obtain ⟨_, _, rfl, _⟩ := h; rfl
  · obtain ⟨p, L, rfl, ⟨dx, l, d, hp, ts, hl, hts⟩, k⟩ := h
    refine ⟨_, PSs.nox (pss_one (ps_ret (pe_callTy call_list_of (by rfl) (fr_list (K := K) E) (by decide +kernel) (pa_cons (pe_fld (pv 0) rfl) pa_nil)))), ?_⟩
    refine ⟨_, rfl, p, _, dx, _, _, rfl, hp, cl_Order E, na_Order_listed E, rfl, _, _, rfl, .inl (SqL.of hl), fun a ha => ?_⟩
    exact k _ a (Same.new ha) ha ⟨ts, upd_same, hts.same (Same.new ha)⟩
theorem swap_set {α : Type} (A B : List α) (x y : α) : ((A ++ x :: y :: B).set A.length y).set (A.length + 1) x = A ++ y :: x :: B := by
  rw [List.set_append_right _ _ (Nat.le_refl _), Nat.sub_self]
  show ((A ++ y :: y :: B).set (A.length + 1) x) = _
  rw [List.set_append_right _ _ (Nat.le_succ _), show A.length.succ - A.length = 1 by omega]
  rfl
theorem swap_small {A B : List Pr} {x y : Pr} (h : small (A ++ x :: y :: B)) : small (A ++ y :: x :: B) := by
  have hp : (A ++ x :: y :: B).Perm (A ++ y :: x :: B) := List.Perm.append_left A (List.Perm.swap _ _ _)
  exact ⟨by rw [← hp.length_eq]; exact h.1, hp.nodup_iff.mp h.2.1, fun q hq => h.2.2 q (hp.mem_iff.mpr hq)⟩
def sp_Order_exchanged (K : PySem.W.Frag) : Sp := fun vs H Q _ => ∃ (p : Addr) (A B : List Pr) (x y : Pr), vs = [.ref p, .int (A.length : Int)] ∧ OrdAt K H p (A ++ x :: y :: B) ∧ small (A ++ x :: y :: B) ∧
  ∀ H' p', Same H H' → H p' = none → OrdAt K H' p' (A ++ y :: x :: B) → Q (.ref p') H'
theorem ok_Order_exchanged (E : TX K mg) : FnOk P w K mg base CX0 6 (a_Order_exchanged K) (fdOf K (a_Order_exchanged K)) P_Order_exchanged (sp_Order_exchanged K) := by
  refine (f_Order_exchanged E).ok sc_Order_exchanged (fun vs H Q E' h => ?_) (fun cdv A outer s H vs Q E' hr h => ?_)
  · obtain ⟨_, _, _, _, _, rfl, _⟩ := h; rfl
  · obtain ⟨p, A', B', x, y, rfl, ⟨dx, l, d, hp, ts, hl, hts⟩, hsm, k⟩ := h
    refine ⟨_, PSs.nox (pss_cons (ps_if (pt_not (pt_val (pe_call (ok_is_between (K := K) E) (hr.mono (by decide)) rfl (g_is_between (K := K) E) (k_is_between (K := K) E) (b_is_between (K := K) E) .nil pass0 (pa_cons (pv 1) (pa_cons pe_int (pa_cons (pe_op op_sub (pe_callB call_len_seq (by rfl) (fr_len (K := K) E) boot_len (pa_cons (pe_fld (pv 0) rfl) pa_nil)) pe_int) pa_nil)))))) (pss_one ps_never) pss_nil)
    (pss_cons (ps_set (i := 2) sc_Order_exchanged.nd rfl (Or.inl rfl) (pe_meth0 (pv 0) (cl_Order (K := K) E) (m_Order_pairs (K := K) E) (ok_Order_pairs (K := K) E) (hr.mono (by decide)) (b_Order_pairs (K := K) E) .nil pass0))
    (pss_cons (ps_asg (pe_tup (pa_cons (pe_ix ix_list (pv 2) (pe_op op_add (pv 1) pe_int) (fun _ _ => rfl)) (pa_cons (pe_ix ix_list (pv 2) (pv 1) (fun _ _ => rfl)) pa_nil))) (pg_tup rfl (pgs_cons (pg_sub (pv 2) (pv 1) set_list) (pgs_cons (pg_sub (pv 2) (pe_op op_add (pv 1) pe_int) set_list) pgs_nil))))
    (pss_one (ps_ret (pe_make (mk_Order (K := K) E) (ok_Order__init__ (K := K) E) (hr.mono (by decide)) rfl (g_Order (K := K) E) (b_Order__init__ (K := K) E) .nil pass0 (pa_cons (pv 2) pa_nil))))))), ?_⟩
    refine ⟨_, rfl, _, rfl, p, _, dx, _, _, rfl, hp, cl_Order E, na_Order_listed E, rfl, _, _, rfl, .inl (SqL.of hl), _, _, rfl, rfl, _, _, _, rfl, ?_⟩
    rw [List.length_map, hts.1]
    have hln : (A' ++ x :: y :: B').length = A'.length + B'.length + 2 := by rw [List.length_append, List.length_cons, List.length_cons]; omega
    rw [hln, decide_eq_true (by omega), decide_eq_true (by omega)]
    refine ⟨_, rfl, _, rfl, p, dx, _, rfl, hp, rfl, p, _, rfl, ⟨dx, l, d, hp, ts, hl, hts⟩, fun H1 a s1 ha ⟨ts1, hl1, hts1⟩ => ?_⟩
    have e0 : (A' ++ x :: y :: B')[A'.length]? = some x := by rw [List.getElem?_append_right (Nat.le_refl _), Nat.sub_self]; rfl
    have e1 : (A' ++ x :: y :: B')[A'.length + 1]? = some y := by rw [List.getElem?_append_right (by omega), show A'.length + 1 - A'.length = 1 by omega]; rfl
    obtain ⟨t0, et0, ht0⟩ := hts1.at_ e0
    obtain ⟨t1, et1, ht1⟩ := hts1.at_ e1
    have em0 : (ts1.map V.ref)[A'.length]? = some (V.ref t0) := by rw [List.getElem?_map, et0]; rfl
    have em1 : (ts1.map V.ref)[A'.length + 1]? = some (V.ref t1) := by rw [List.getElem?_map, et1]; rfl
    have ix1 : atI (ts1.map V.ref) ((A'.length : Int) + 1) = some (V.ref t1) := show atI _ ((A'.length + 1 : Nat) : Int) = _ from atI_nat em1
    have hlen1 : (ts1.map V.ref).length = A'.length + B'.length + 2 := by rw [List.length_map, hts1.1, hln]
    refine ⟨_, rfl, _, rfl, _, _, rfl, rfl, a, _, _, _, rfl, rfl, SqL.of hl1, ix1, ?_⟩
    refine ⟨_, rfl, _, rfl, a, _, _, _, rfl, rfl, SqL.of hl1, atI_nat em0, by show 2 ≤ sizeLine; decide, fun T hT => ?_⟩
    have naT : a ≠ T := ne_of_none hl1 hT
    refine ⟨T, _, rfl, .inl (.inl upd_same), rfl, _, _, rfl, ⟨_, rfl, _, rfl, a, _, _, A'.length, rfl, rfl, (upd_ne naT).trans hl1, ixN_at (by rw [hlen1]; omega), ?_⟩⟩
    refine ⟨_, _, rfl, ⟨_, rfl, _, rfl, _, _, rfl, rfl, a, _, _, A'.length + 1, rfl, rfl, upd_same, ?_, rfl, ?_⟩⟩
    · rw [List.length_set]
      show ixN _ ((A'.length + 1 : Nat) : Int) = _
      exact ixN_at (by rw [hlen1]; omega)
    rw [map_ref_set, map_ref_set]
    have hT0 : H T = none := s1.free hT
    have s2 : Same H (upd (upd (upd H1 T (.tup [.ref t1, .ref t0])) a (.lst ((ts1.set A'.length t1).map V.ref))) a (.lst (((ts1.set A'.length t1).set (A'.length + 1) t0).map V.ref))) := Same.up (Same.up (Same.up s1 hT0) ha) ha
    have st : ∀ t i j, T2 H1 t i j → T2 (upd (upd (upd H1 T (.tup [.ref t1, .ref t0])) a (.lst ((ts1.set A'.length t1).map V.ref))) a (.lst (((ts1.set A'.length t1).set (A'.length + 1) t0).map V.ref))) t i j := fun t i j e => by
      have na : t ≠ a := ne_of e hl1 (by intro z; cases z)
      show upd _ _ _ _ = _
      rw [upd_ne na, upd_ne na, upd_ne (ne_of_none e hT)]
      exact e
    have pf := ((hts1.set A'.length ht1).set (A'.length + 1) ht0).map st
    rw [swap_set] at pf
    refine ⟨_, rfl, fun z dz nz ndz nez => ?_⟩
    have s3 := Same.new0 (Same.new0 (Same.refl _) ndz (o := .own z)) (a := z) (o := .ins (c_Order K) dz []) (by rw [upd_ne nez.symm]; exact nz)
    refine ⟨z, dz, a, A' ++ y :: x :: B', rfl, upd_same, ⟨_, s3 _ _ upd_same, pf.same s3⟩, swap_small hsm, fun H' sx oa => ⟨rfl, ?_⟩⟩
    refine k H' z (s2.trans (Same.made nz ndz sx)) (s2.free nz) oa
end
end K78
end
section
set_option Elab.async false
set_option linter.all false
set_option maxRecDepth 100000
set_option maxHeartbeats 4000000
namespace K78
open PySem PySem.Spec PyProof.Rows L2 He
section
variable {P : Program} {w : World} {K : PySem.W.Frag} {mg : Str → Option Value} {base : Heap}
/-! ### Amounts -/
def sp_check_list (K : PySem.W.Frag) : Sp := fun vs H Q _ => ∃ (z : Str) (a : Addr) (n : Nat) (f : Nat → Int), vs = [.str z, .ref a] ∧ IntsAt H a n f ∧ 1 ≤ n ∧ n ≤ 8 ∧ (∀ i, i < n → 0 ≤ f i) ∧ ∀ H', Same H H' → Q .non H'
theorem ok_check_list (E : TX K mg) : FnOk P w K mg base CX0 2 (a_check_list K) (fdOf K (a_check_list K)) P_check_list (sp_check_list K) := by
  refine (f_check_list E).ok sc_check_list (fun vs H Q E' h => ?_) (fun cdv A outer s H vs Q E' hr h => ?_)
  · obtain ⟨_, _, _, _, rfl, _⟩ := h; rfl
  · obtain ⟨z, a, n, f, rfl, ha, h1, h8, hf, k⟩ := h
    refine ⟨_, PSs.nox (pss_cons (ps_if (PW.pt (pw_or (pt_not (pt_val (pe_callB call_isi (by rfl) (fr_isinstance (K := K) E) (by decide +kernel) (pa_cons (pv 1) (pa_cons (pe_bltn (v := .ty "list") (by rfl) (fr_list (K := K) E) (by decide +kernel) rfl) pa_nil))))) (pw_or1 (pt_not (pt_chain op_le op_le pe_int (pe_callB call_len_seq (by rfl) (fr_len (K := K) E) boot_len (pa_cons (pv 1) pa_nil)) (pe_glob (v := .int 8) rfl (gi_LARGEST (K := K) E).choose_spec ⟨_, rfl⟩)))))) (pss_one ps_never) pss_nil)
    (pss_one (ps_for PassesOwn.never rfl (pi_enum rfl (fr_enumerate (K := K) E) (pa_cons (pv 1) pa_nil)) (pg_tup rfl (pgs_cons (pg_name (i := 2) sc_check_list.nd rfl (Or.inl rfl)) (pgs_cons (pg_name (i := 3) sc_check_list.nd rfl (Or.inl rfl)) pgs_nil)))
    (pss_one (ps_if (PW.pt (pw_or (pt_not (pt_val (pe_call (ok_is_integer (K := K) E) (hr.mono (by decide)) rfl (g_is_integer (K := K) E) (k_is_integer (K := K) E) (b_is_integer (K := K) E) .nil pass0 (pa_cons (pv 3) pa_nil)))) (pw_or1 (pt_cmpR op_lt (pv 3) pe_int (nomark _))))) (pss_one ps_never) pss_nil))))), ?_⟩
    refine ⟨_, rfl, _, _, _, _, _, rfl, .ty _, .base (.lst ha), kit_ty (r := true) (by decide +kernel), _, rfl, ?_⟩
    refine ⟨_, rfl, _, _, rfl, .inl (SqL.of ha), _, _, rfl, rfl, _, rfl, ?_⟩
    rw [rg_len, decide_eq_true (show (1 : Int) ≤ (n : Int) by omega)]
    refine ⟨_, _, rfl, rfl, _, rfl, ?_⟩
    rw [decide_eq_true (show (n : Int) ≤ 8 by omega)]
    refine ⟨_, rfl, a, _, rfl, SqL.of ha, ?_⟩
    refine for_it walk_enum (fun i σ H' => ∃ v1 v2, σ = [some (.str z), some (.ref a), v1, v2] ∧ Same H H') ⟨none, none, rfl, Same.refl H⟩ (fun i σ H' hi ⟨v1, v2, e, s⟩ => SqL.of (s _ _ ha)) ?_ ?_
    · rintro i x σ H' H'' hi ⟨v1, v2, rfl, s⟩ ⟨T, y1, y2, rfl, hT, rfl, e1, e2⟩
      cases e1
      obtain ⟨hi', rfl⟩ := rg_of e2
      refine ⟨_, _, rfl, .inl (.inl upd_same), rfl, _, _, rfl, _, _, rfl, rfl, ?_⟩
      refine ⟨_, rfl, _, rfl, _, rfl, _, rfl, _, _, rfl, rfl, _, rfl, ?_⟩
      have hn : ¬ (f i < 0) := by have := hf i hi'; omega
      rw [decide_eq_false hn]
      exact ⟨_, _, rfl, Same.new0 s hT⟩
    · rintro σ H' ⟨v1, v2, rfl, s⟩
      exact k H' s
def amtF (s t : Addr) : List (Str × V) := [("stock_list", V.ref s), ("wish_list", V.ref t)]
def AmtAt (K : PySem.W.Frag) (H : Hp) (p : Addr) (m n : Nat) (a b : Nat → Int) : Prop := ∃ dx s t, H p = some (.ins (c_Amounts K) dx (amtF s t)) ∧ IntsAt H s m a ∧ IntsAt H t n b
theorem AmtAt.same {H H' : Hp} {p : Addr} {m n : Nat} {a b : Nat → Int} (h : AmtAt K H p m n a b) (s : Same H H') : AmtAt K H' p m n a b := let ⟨dx, l, d, e, q, r⟩ := h; ⟨dx, l, d, s _ _ e, s _ _ q, s _ _ r⟩
def dim (m n : Nat) : Prop := 1 ≤ m ∧ m ≤ 8 ∧ 1 ≤ n ∧ n ≤ 8
def nonneg (m n : Nat) (a b : Nat → Int) : Prop := (∀ i, i < m → 0 ≤ a i) ∧ ∀ j, j < n → 0 ≤ b j
def sp_Amounts__init__ (K : PySem.W.Frag) : Sp := fun vs H Q _ => ∃ (p dx s t : Addr) (m n : Nat) (a b : Nat → Int), vs = [.ref p, .ref s, .ref t] ∧ H p = some (.ins (c_Amounts K) dx []) ∧ IntsAt H s m a ∧ IntsAt H t n b ∧ dim m n ∧ nonneg m n a b ∧
  ∀ H', SameX p H H' → AmtAt K H' p m n a b → Q .non H'
theorem ok_Amounts__init__ (E : TX K mg) : FnOk P w K mg base CX0 3 (a_Amounts__init__ K) (fdOf K (a_Amounts__init__ K)) P_Amounts__init__ (sp_Amounts__init__ K) := by
  refine (f_Amounts__init__ E).ok sc_Amounts__init__ (fun vs H Q E' h => ?_) (fun cdv A outer s H vs Q E' hr h => ?_)
  · obtain ⟨_, _, _, _, _, _, _, _, rfl, _⟩ := h; rfl
  · obtain ⟨p, dx, s, t, m, n, a, b, rfl, hp, hs, ht, ⟨hm1, hm8, hn1, hn8⟩, ⟨ha, hb⟩, k⟩ := h
    refine ⟨_, PSs.nox (pss_cons (ps_expr (pe_call (ok_check_list (K := K) E) (hr.mono (by decide)) rfl (g_check_list (K := K) E) (k_check_list (K := K) E) (b_check_list (K := K) E) .nil pass0 (pa_cons pe_str (pa_cons (pv 1) pa_nil))))
    (pss_cons (ps_expr (pe_call (ok_check_list (K := K) E) (hr.mono (by decide)) rfl (g_check_list (K := K) E) (k_check_list (K := K) E) (b_check_list (K := K) E) .nil pass0 (pa_cons pe_str (pa_cons (pv 2) pa_nil))))
    (pss_cons (ps_fld (pv 0) (pe_callTy call_list_of (by rfl) (fr_list (K := K) E) (by decide +kernel) (pa_cons (pv 1) pa_nil)) rfl)
    (pss_one (ps_fld (pv 0) (pe_callTy call_list_of (by rfl) (fr_list (K := K) E) (by decide +kernel) (pa_cons (pv 2) pa_nil)) rfl))))), ?_⟩
    refine ⟨_, rfl, _, s, m, a, rfl, hs, hm1, hm8, ha, fun H1 s1 => ?_⟩
    refine ⟨_, rfl, _, t, n, b, rfl, s1 _ _ ht, hn1, hn8, hb, fun H2 s2 => ?_⟩
    have s3 := s1.trans s2
    refine ⟨_, rfl, _, _, rfl, .inl (SqL.of (s3 _ _ hs)), fun l hl => ?_⟩
    have npl : p ≠ l := ne_of_none (s3 _ _ hp) hl
    refine ⟨_, rfl, p, _, dx, [], rfl, (upd_ne npl).trans (s3 _ _ hp), cl_Amounts E, na_Amounts_stock_list E, (by show 0 < 1000; decide), ?_⟩
    have ntl : t ≠ l := ne_of_none (s3 _ _ ht) hl
    have ntp : t ≠ p := ne_of (s3 _ _ ht) (s3 _ _ hp) (by intro z; cases z)
    refine ⟨_, rfl, _, _, rfl, .inl (SqL.of ((upd_ne ntp).trans ((upd_ne ntl).trans (s3 _ _ ht)))), fun d hd => ?_⟩
    have npd : p ≠ d := fun e => by rw [← e, upd_same] at hd; cases hd
    have hd0 : upd H2 l (.lst (rg m fun i => .int (a i))) d = none := by rw [upd_ne npd.symm] at hd; exact hd
    have nld : l ≠ d := fun e => by rw [← e, upd_same] at hd0; cases hd0
    have hd1 : H2 d = none := by rw [upd_ne nld.symm] at hd0; exact hd0
    refine ⟨_, rfl, p, _, dx, _, rfl, (upd_ne npd).trans upd_same, cl_Amounts E, na_Amounts_wish_list E, (by show 1 < 1000; decide), ?_⟩
    refine k _ ?_ ⟨dx, l, d, upd_same, ?_, ?_⟩
    · exact SameX.up (SameX.up (SameX.up (SameX.up (fun b o e _ => s3 b o e) (.inl (s3.free hl))) (.inr rfl)) (.inl (s3.free hd1))) (.inr rfl)
    · show upd _ _ _ _ = _
      rw [upd_ne npl.symm, upd_ne nld, upd_ne npl.symm, upd_same]
    · show upd _ _ _ _ = _
      rw [upd_ne npd.symm, upd_same]
def sp_Amounts_stocks (K : PySem.W.Frag) : Sp := fun vs H Q _ => ∃ (p : Addr) (m n : Nat) (a b : Nat → Int), vs = [.ref p] ∧ AmtAt K H p m n a b ∧ ∀ H' l, Same H H' → H l = none → IntsAt H' l m a → Q (.ref l) H'
theorem ok_Amounts_stocks (E : TX K mg) : FnOk P w K mg base CX0 1 (a_Amounts_stocks K) (fdOf K (a_Amounts_stocks K)) P_Amounts_stocks (sp_Amounts_stocks K) := by
  refine (f_Amounts_stocks E).ok sc_Amounts_stocks (fun vs H Q E' h => ?_) (fun cdv A outer s H vs Q E' hr h => ?_)
  · obtain ⟨_, _, _, _, _, rfl, _⟩ := h; rfl
  · obtain ⟨p, m, n, a, b, rfl, ⟨dx, s, t, hp, hs, ht⟩, k⟩ := h
    refine ⟨_, PSs.nox (pss_one (ps_ret (pe_callTy call_list_of (by rfl) (fr_list (K := K) E) (by decide +kernel) (pa_cons (pe_fld (pv 0) rfl) pa_nil)))), ?_⟩
    exact ⟨_, rfl, p, _, dx, _, _, rfl, hp, cl_Amounts E, na_Amounts_stock_list E, rfl, _, _, rfl, .inl (SqL.of hs), fun l hl => k _ l (Same.new hl) hl upd_same⟩
def sp_Amounts_wishes (K : PySem.W.Frag) : Sp := fun vs H Q _ => ∃ (p : Addr) (m n : Nat) (a b : Nat → Int), vs = [.ref p] ∧ AmtAt K H p m n a b ∧ ∀ H' l, Same H H' → H l = none → IntsAt H' l n b → Q (.ref l) H'
theorem ok_Amounts_wishes (E : TX K mg) : FnOk P w K mg base CX0 1 (a_Amounts_wishes K) (fdOf K (a_Amounts_wishes K)) P_Amounts_wishes (sp_Amounts_wishes K) := by
  refine (f_Amounts_wishes E).ok sc_Amounts_wishes (fun vs H Q E' h => ?_) (fun cdv A outer s H vs Q E' hr h => ?_)
  · obtain ⟨_, _, _, _, _, rfl, _⟩ := h; rfl
  · obtain ⟨p, m, n, a, b, rfl, ⟨dx, s, t, hp, hs, ht⟩, k⟩ := h
    refine ⟨_, PSs.nox (pss_one (ps_ret (pe_callTy call_list_of (by rfl) (fr_list (K := K) E) (by decide +kernel) (pa_cons (pe_fld (pv 0) rfl) pa_nil)))), ?_⟩
    exact ⟨_, rfl, p, _, dx, _, _, rfl, hp, cl_Amounts E, na_Amounts_wish_list E, rfl, _, _, rfl, .inl (SqL.of ht), fun l hl => k _ l (Same.new hl) hl upd_same⟩
/-- the sum of n whole numbers -/
def sm (n : Nat) (f : Nat → Int) : Int := ((List.range n).map f).sum
theorem ints_seq {H : Hp} {a : Addr} {n : Nat} {f : Nat → Int} (h : IntsAt H a n f) : SqL K H a (((List.range n).map f).map V.int) := by
  rw [← rg_ints]
  exact SqL.of h
def sp_Amounts_over (K : PySem.W.Frag) : Sp := fun vs H Q _ => ∃ (p : Addr) (m n : Nat) (a b : Nat → Int), vs = [.ref p] ∧ AmtAt K H p m n a b ∧ Q (.int (sm m a - sm n b)) H
theorem ok_Amounts_over (E : TX K mg) : FnOk P w K mg base CX0 1 (a_Amounts_over K) (fdOf K (a_Amounts_over K)) P_Amounts_over (sp_Amounts_over K) := by
  refine (f_Amounts_over E).ok sc_Amounts_over (fun vs H Q E' h => ?_) (fun cdv A outer s H vs Q E' hr h => ?_)
  · obtain ⟨_, _, _, _, _, rfl, _⟩ := h; rfl
  · obtain ⟨p, m, n, a, b, rfl, ⟨dx, s, t, hp, hs, ht⟩, k⟩ := h
    refine ⟨_, PSs.nox (pss_one (ps_ret (pe_op op_sub (pe_callB (cr_sum rfl) (by rfl) (fr_sum (K := K) E) (by decide +kernel) (pa_cons (pe_fld (pv 0) rfl) pa_nil)) (pe_callB (cr_sum rfl) (by rfl) (fr_sum (K := K) E) (by decide +kernel) (pa_cons (pe_fld (pv 0) rfl) pa_nil))))), ?_⟩
    refine ⟨_, rfl, p, _, dx, _, _, rfl, hp, cl_Amounts E, na_Amounts_stock_list E, rfl, s, _, rfl, ints_seq hs, ?_⟩
    exact ⟨_, rfl, p, _, dx, _, _, rfl, hp, cl_Amounts E, na_Amounts_wish_list E, rfl, t, _, rfl, ints_seq ht, _, _, rfl, rfl, k⟩
/-! ### Table -/
def tabF (g : Addr) : List (Str × V) := [("grid", V.ref g)]
def TabAt (K : PySem.W.Frag) (H : Hp) (p : Addr) (m n : Nat) (c : Nat → Nat → Option Int) : Prop := ∃ dx g, H p = some (.ins (c_Table K) dx (tabF g)) ∧ GridAt H g m n c
theorem TabAt.same {H H' : Hp} {p : Addr} {m n : Nat} {c : Nat → Nat → Option Int} (h : TabAt K H p m n c) (s : Same H H') : TabAt K H' p m n c := let ⟨dx, g, e, q⟩ := h; ⟨dx, g, s _ _ e, q.same s⟩
def sp_is_entry (K : PySem.W.Frag) : Sp := fun vs H Q _ => ∃ (o : Option Int), vs = [ov o] ∧ Q (.bl true) H
theorem ok_is_entry (E : TX K mg) : FnOk P w K mg base CX0 2 (a_is_entry K) (fdOf K (a_is_entry K)) P_is_entry (sp_is_entry K) := by
  refine (f_is_entry E).ok sc_is_entry (fun vs H Q E' h => ?_) (fun cdv A outer s H vs Q E' hr h => ?_)
  · obtain ⟨_, rfl, _⟩ := h; rfl
  · obtain ⟨o, rfl, k⟩ := h
    refine ⟨_, PSs.nox (pss_one (ps_ret (pe_or (pe_cmpR op_isN (pv 0) pe_non (nomark _)) (pe_one (pe_call (ok_is_integer (K := K) E) (hr.mono (by decide)) rfl (g_is_integer (K := K) E) (k_is_integer (K := K) E) (b_is_integer (K := K) E) .nil pass0 (pa_cons (pv 0) pa_nil)))))), ?_⟩
    refine ⟨_, rfl, rfl, _, rfl, ?_⟩
    cases o with
    | none => exact k
    | some x => exact ⟨_, rfl, _, rfl, k⟩
def sp_is_row (K : PySem.W.Frag) : Sp := fun vs H Q _ => ∃ (a : Addr) (n : Nat) (f : Nat → Option Int), vs = [.ref a, .int (n : Int)] ∧ RowAt H a n f ∧ Q (.bl true) H
theorem ok_is_row (E : TX K mg) : FnOk P w K mg base CX0 3 (a_is_row K) (fdOf K (a_is_row K)) P_is_row (sp_is_row K) := by
  refine (f_is_row E).ok sc_is_row (fun vs H Q E' h => ?_) (fun cdv A outer s H vs Q E' hr h => ?_)
  · obtain ⟨_, _, _, rfl, _⟩ := h; rfl
  · obtain ⟨a, n, f, rfl, ha, k⟩ := h
    refine ⟨_, PSs.nox (pss_cons (ps_if (PW.pt (pw_or (pt_not (pt_val (pe_callB call_isi (by rfl) (fr_isinstance (K := K) E) (by decide +kernel) (pa_cons (pv 0) (pa_cons (pe_bltn (v := .ty "list") (by rfl) (fr_list (K := K) E) (by decide +kernel) rfl) pa_nil))))) (pw_or1 (pt_cmpR op_ne (pe_callB call_len_seq (by rfl) (fr_len (K := K) E) boot_len (pa_cons (pv 0) pa_nil)) (pv 1) (nomark _))))) (pss_one (ps_ret pe_bl)) pss_nil)
    (pss_cons (ps_for PassesOwn.never rfl (pi_list (pv 0)) (pg_name (i := 2) sc_is_row.nd rfl (Or.inl rfl))
    (pss_one (ps_if (pt_not (pt_val (pe_call (ok_is_entry (K := K) E) (hr.mono (by decide)) rfl (g_is_entry (K := K) E) (k_is_entry (K := K) E) (b_is_entry (K := K) E) .nil pass0 (pa_cons (pv 2) pa_nil)))) (pss_one (ps_ret pe_bl)) pss_nil)))
    (pss_one (ps_ret pe_bl)))), ?_⟩
    refine ⟨_, rfl, _, _, _, _, _, rfl, .ty _, .base (.lst ha), kit_ty (r := true) (by decide +kernel), _, rfl, ?_⟩
    refine ⟨_, rfl, _, _, rfl, .inl (SqL.of ha), _, rfl, rfl, _, rfl, ?_⟩
    rw [rg_len, decide_eq_true rfl]
    refine ⟨_, rfl, a, rfl, ⟨_, SqL.of ha⟩, for_list (fun i σ H' => ∃ v1, σ = [some (.ref a), some (.int (n : Int)), v1] ∧ H' = H) ⟨none, rfl, rfl⟩ (fun i σ H' _ ⟨_, _, e⟩ => by rw [e]; exact SqL.of ha) ?_ ?_⟩
    · rintro i x σ H' hx ⟨v1, rfl, rfl⟩
      obtain ⟨hi', rfl⟩ := rg_of hx
      exact ⟨_, rfl, f i, rfl, _, rfl, _, rfl, rfl⟩
    · rintro σ H' ⟨v1, rfl, rfl⟩
      exact k
def sp_width_of (K : PySem.W.Frag) : Sp := fun vs H Q _ => ∃ (g : Addr) (m n : Nat) (c : Nat → Nat → Option Int), vs = [.ref g] ∧ GridAt H g m n c ∧ 1 ≤ m ∧ n ≤ 8 ∧ Q (.int (n : Int)) H
theorem ok_width_of (E : TX K mg) : FnOk P w K mg base CX0 1 (a_width_of K) (fdOf K (a_width_of K)) P_width_of (sp_width_of K) := by
  refine (f_width_of E).ok sc_width_of (fun vs H Q E' h => ?_) (fun cdv A outer s H vs Q E' hr h => ?_)
  · obtain ⟨_, _, _, _, rfl, _⟩ := h; rfl
  · obtain ⟨g, m, n, c, rfl, ⟨r, hg, hr'⟩, hm, hn, k⟩ := h
    refine ⟨_, PSs.nox (pss_cons (ps_if (PW.pt (pw_and (pt_val (pe_callB call_isi (by rfl) (fr_isinstance (K := K) E) (by decide +kernel) (pa_cons (pe_ix ix_list (pv 0) pe_int (fun _ _ => rfl)) (pa_cons (pe_bltn (v := .ty "list") (by rfl) (fr_list (K := K) E) (by decide +kernel) rfl) pa_nil)))) (pw_and1 (pt_cmpR op_le (pe_callB call_len_seq (by rfl) (fr_len (K := K) E) boot_len (pa_cons (pe_ix ix_list (pv 0) pe_int (fun _ _ => rfl)) pa_nil)) (pe_glob (v := .int 8) rfl (gi_MOST (K := K) E).choose_spec ⟨_, rfl⟩) (nomark _))))) (pss_one (ps_ret (pe_callB call_len_seq (by rfl) (fr_len (K := K) E) boot_len (pa_cons (pe_ix ix_list (pv 0) pe_int (fun _ _ => rfl)) pa_nil)))) pss_nil)
    (pss_one (ps_ret pe_int))), ?_⟩
    have h0 := hr' 0 hm
    have ix : atI (rg m fun i => V.ref (r i)) 0 = some (V.ref (r 0)) := atR (i := 0) _ hm
    refine ⟨_, rfl, g, _, _, _, rfl, rfl, SqL.of hg, ix, _, _, _, _, _, rfl, .ty _, .base (.lst h0), kit_ty (r := true) (by decide +kernel), _, rfl, ?_⟩
    refine ⟨_, rfl, g, _, _, _, rfl, rfl, SqL.of hg, ix, _, _, rfl, .inl (SqL.of h0), _, _, rfl, rfl, _, rfl, ?_⟩
    rw [rg_len, decide_eq_true (show (n : Int) ≤ 8 by omega)]
    refine ⟨_, rfl, g, _, _, _, rfl, rfl, SqL.of hg, ix, _, _, rfl, .inl (SqL.of h0), ?_⟩
    rw [rg_len]
    exact k
end
end K78
end
section
set_option Elab.async false
set_option linter.all false
set_option maxRecDepth 100000
set_option maxHeartbeats 4000000
namespace K78
open PySem PySem.Spec PyProof.Rows L2 He
/-! the cells that have a price -/
def cellsRow (n : Nat) (f : Nat → Option Int) (i : Nat) : List Pr := (List.range n).flatMap fun j => if (f j).isSome then [(i, j)] else []
def cells (m n : Nat) (c : Nat → Nat → Option Int) : List Pr := (List.range m).flatMap fun i => cellsRow n (c i) i
theorem flat_succ {α : Type} (n : Nat) (f : Nat → List α) : (List.range (n + 1)).flatMap f = (List.range n).flatMap f ++ f n := by
  rw [List.range_succ, List.flatMap_append]
  simp
theorem cellsRow_succ (n : Nat) (f : Nat → Option Int) (i : Nat) : cellsRow (n + 1) f i = cellsRow n f i ++ if (f n).isSome then [(i, n)] else [] := flat_succ n _
theorem cells_succ (m n : Nat) (c : Nat → Nat → Option Int) : cells (m + 1) n c = cells m n c ++ cellsRow n (c m) m := flat_succ m _
theorem mem_cellsRow {n : Nat} {f : Nat → Option Int} {i : Nat} {q : Pr} : q ∈ cellsRow n f i ↔ q.1 = i ∧ q.2 < n ∧ (f q.2).isSome = true := by
  unfold cellsRow
  rw [List.mem_flatMap]
  constructor
  · rintro ⟨j, hj, hq⟩
    rw [List.mem_range] at hj
    split at hq
    · rename_i h
      rw [List.mem_singleton] at hq
      rw [hq]
      exact ⟨rfl, hj, h⟩
    · cases hq
  · rintro ⟨h1, h2, h3⟩
    refine ⟨q.2, List.mem_range.mpr h2, ?_⟩
    rw [if_pos h3, List.mem_singleton, ← h1]
theorem mem_cells {m n : Nat} {c : Nat → Nat → Option Int} {q : Pr} : q ∈ cells m n c ↔ q.1 < m ∧ q.2 < n ∧ (c q.1 q.2).isSome = true := by
  unfold cells
  rw [List.mem_flatMap]
  constructor
  · rintro ⟨i, hi, hq⟩
    obtain ⟨h1, h2, h3⟩ := mem_cellsRow.mp hq
    rw [List.mem_range] at hi
    rw [h1]
    exact ⟨hi, h2, h3⟩
  · rintro ⟨h1, h2, h3⟩
    exact ⟨q.1, List.mem_range.mpr h1, mem_cellsRow.mpr ⟨rfl, h2, h3⟩⟩
theorem nodup_cellsRow (n : Nat) (f : Nat → Option Int) (i : Nat) : (cellsRow n f i).Nodup := by
  induction n with
  | zero => exact List.nodup_nil
  | succ n ih =>
    rw [cellsRow_succ]
    refine List.nodup_append.mpr ⟨ih, by split <;> simp, fun a ha b hb => ?_⟩
    split at hb
    · rw [List.mem_singleton] at hb
      have := (mem_cellsRow.mp ha).2.1
      intro e
      rw [e, hb] at this
      exact absurd this (Nat.lt_irrefl _)
    · cases hb
theorem nodup_cells (m n : Nat) (c : Nat → Nat → Option Int) : (cells m n c).Nodup := by
  induction m with
  | zero => exact List.nodup_nil
  | succ m ih =>
    rw [cells_succ]
    refine List.nodup_append.mpr ⟨ih, nodup_cellsRow _ _ _, fun a ha b hb => ?_⟩
    have h1 := (mem_cells.mp ha).1
    have h2 := (mem_cellsRow.mp hb).1
    intro e
    rw [e, h2] at h1
    exact absurd h1 (Nat.lt_irrefl _)
theorem len_cellsRow (n : Nat) (f : Nat → Option Int) (i : Nat) : (cellsRow n f i).length ≤ n := by
  induction n with
  | zero => exact Nat.le_refl _
  | succ n ih =>
    rw [cellsRow_succ, List.length_append]
    have : (if (f n).isSome then [(i, n)] else []).length ≤ 1 := by split <;> simp
    omega
theorem len_cells (m n : Nat) (c : Nat → Nat → Option Int) : (cells m n c).length ≤ m * n := by
  induction m with
  | zero => rw [Nat.zero_mul]; exact Nat.le_refl _
  | succ m ih =>
    rw [cells_succ, List.length_append, Nat.succ_mul]
    exact Nat.add_le_add ih (len_cellsRow _ _ _)
theorem cells64 {m n : Nat} (c : Nat → Nat → Option Int) (h : dim m n) : (cells m n c).length ≤ 64 :=
  Nat.le_trans (len_cells m n c) (Nat.mul_le_mul h.2.1 h.2.2.2)
section
variable {P : Program} {w : World} {K : PySem.W.Frag} {mg : Str → Option Value} {base : Heap}
def sp_Table_stocks (K : PySem.W.Frag) : Sp := fun vs H Q _ => ∃ (p : Addr) (m n : Nat) (c : Nat → Nat → Option Int), vs = [.ref p] ∧ TabAt K H p m n c ∧ Q (.int (m : Int)) H
theorem ok_Table_stocks (E : TX K mg) : FnOk P w K mg base CX0 1 (a_Table_stocks K) (fdOf K (a_Table_stocks K)) P_Table_stocks (sp_Table_stocks K) := by
  refine (f_Table_stocks E).ok sc_Table_stocks (fun vs H Q E' h => ?_) (fun cdv A outer s H vs Q E' hr h => ?_)
  · obtain ⟨_, _, _, _, rfl, _⟩ := h; rfl
  · obtain ⟨p, m, n, c, rfl, ⟨dx, g, hp, r, hg⟩, k⟩ := h
    refine ⟨_, PSs.nox (pss_one (ps_ret (pe_callB call_len_seq (by rfl) (fr_len (K := K) E) boot_len (pa_cons (pe_fld (pv 0) rfl) pa_nil)))), ?_⟩
    refine ⟨_, rfl, p, _, dx, _, _, rfl, hp, cl_Table E, na_Table_grid E, rfl, _, _, rfl, .inl (SqL.of hg.o), ?_⟩
    rw [rg_len]
    exact k
def sp_Table_wishes (K : PySem.W.Frag) : Sp := fun vs H Q _ => ∃ (p : Addr) (m n : Nat) (c : Nat → Nat → Option Int), vs = [.ref p] ∧ TabAt K H p m n c ∧ 1 ≤ m ∧ Q (.int (n : Int)) H
theorem ok_Table_wishes (E : TX K mg) : FnOk P w K mg base CX0 1 (a_Table_wishes K) (fdOf K (a_Table_wishes K)) P_Table_wishes (sp_Table_wishes K) := by
  refine (f_Table_wishes E).ok sc_Table_wishes (fun vs H Q E' h => ?_) (fun cdv A outer s H vs Q E' hr h => ?_)
  · obtain ⟨_, _, _, _, rfl, _⟩ := h; rfl
  · obtain ⟨p, m, n, c, rfl, ⟨dx, g, hp, r, hg⟩, hm, k⟩ := h
    refine ⟨_, PSs.nox (pss_one (ps_ret (pe_callB call_len_seq (by rfl) (fr_len (K := K) E) boot_len (pa_cons (pe_ix ix_list (pe_fld (pv 0) rfl) pe_int (fun _ _ => rfl)) pa_nil)))), ?_⟩
    have ix : atI (rg m fun i => V.ref (r i)) 0 = some (V.ref (r 0)) := atR (i := 0) _ hm
    refine ⟨_, rfl, p, _, dx, _, _, rfl, hp, cl_Table E, na_Table_grid E, rfl, _, _, _, _, rfl, rfl, SqL.of hg.o, ix, _, _, rfl, .inl (SqL.of (hg.r 0 hm)), ?_⟩
    rw [rg_len]
    exact k
def sp_Table_has_cell (K : PySem.W.Frag) : Sp := fun vs H Q _ => ∃ (p t : Addr) (m n i j : Nat) (c : Nat → Nat → Option Int), vs = [.ref p, .ref t] ∧ TabAt K H p m n c ∧ T2 H t i j ∧ i < m ∧ j < n ∧ Q (.bl true) H
theorem ok_Table_has_cell (E : TX K mg) : FnOk P w K mg base CX0 3 (a_Table_has_cell K) (fdOf K (a_Table_has_cell K)) P_Table_has_cell (sp_Table_has_cell K) := by
  refine (f_Table_has_cell E).ok sc_Table_has_cell (fun vs H Q E' h => ?_) (fun cdv A outer s H vs Q E' hr h => ?_)
  · obtain ⟨_, _, _, _, _, _, _, rfl, _⟩ := h; rfl
  · obtain ⟨p, t, m, n, i, j, c, rfl, ⟨dx, g, hp, r, hg⟩, ht, hi, hj, k⟩ := h
    refine ⟨_, PSs.nox (pss_one (ps_ret (pe_and (pe_call (ok_is_spot (K := K) E) (hr.mono (by decide)) rfl (g_is_spot (K := K) E) (k_is_spot (K := K) E) (b_is_spot (K := K) E) .nil pass0 (pa_cons (pv 1) pa_nil)) (pe_and (pe_chain op_le op_lt pe_int (pe_ix ix_tup (pv 1) pe_int (fun _ _ => rfl)) (pe_callB call_len_seq (by rfl) (fr_len (K := K) E) boot_len (pa_cons (pe_fld (pv 0) rfl) pa_nil))) (pe_one (pe_chain op_le op_lt pe_int (pe_ix ix_tup (pv 1) pe_int (fun _ _ => rfl)) (pe_callB call_len_seq (by rfl) (fr_len (K := K) E) boot_len (pa_cons (pe_ix ix_list (pe_fld (pv 0) rfl) pe_int (fun _ _ => rfl)) pa_nil)))))))), ?_⟩
    have ix : atI (rg m fun i => V.ref (r i)) 0 = some (V.ref (r 0)) := atR (i := 0) _ (by omega)
    refine ⟨_, rfl, t, _, _, rfl, ht, _, rfl, ?_⟩
    refine ⟨_, rfl, _, _, _, _, rfl, rfl, t2_at ht, rfl, _, _, rfl, rfl, _, rfl, ?_⟩
    rw [decide_eq_true (show (0 : Int) ≤ (i : Int) by omega)]
    refine ⟨_, rfl, p, _, dx, _, _, rfl, hp, cl_Table E, na_Table_grid E, rfl, _, _, rfl, .inl (SqL.of hg.o), _, _, rfl, rfl, _, rfl, ?_⟩
    rw [rg_len, decide_eq_true (show (i : Int) < (m : Int) by omega)]
    refine ⟨_, rfl, _, _, _, _, rfl, rfl, t2_at ht, rfl, _, _, rfl, rfl, _, rfl, ?_⟩
    rw [decide_eq_true (show (0 : Int) ≤ (j : Int) by omega)]
    refine ⟨_, rfl, p, _, dx, _, _, rfl, hp, cl_Table E, na_Table_grid E, rfl, _, _, _, _, rfl, rfl, SqL.of hg.o, ix, _, _, rfl, .inl (SqL.of (hg.r 0 (by omega))), _, _, rfl, rfl, ?_⟩
    rw [rg_len]
    show Q (.bl (decide ((j : Int) < (n : Int)))) _
    rw [decide_eq_true (show (j : Int) < (n : Int) by omega)]
    exact k
def sp_Table__getitem__ (K : PySem.W.Frag) : Sp := fun vs H Q _ => ∃ (p t : Addr) (m n i j : Nat) (c : Nat → Nat → Option Int), vs = [.ref p, .ref t] ∧ TabAt K H p m n c ∧ T2 H t i j ∧ i < m ∧ j < n ∧ Q (ov (c i j)) H
theorem ok_Table__getitem__ (E : TX K mg) : FnOk P w K mg base CX0 4 (a_Table__getitem__ K) (fdOf K (a_Table__getitem__ K)) P_Table__getitem__ (sp_Table__getitem__ K) := by
  refine (f_Table__getitem__ E).ok sc_Table__getitem__ (fun vs H Q E' h => ?_) (fun cdv A outer s H vs Q E' hr h => ?_)
  · obtain ⟨_, _, _, _, _, _, _, rfl, _⟩ := h; rfl
  · obtain ⟨p, t, m, n, i, j, c, rfl, ⟨dx, g, hp, r, hg⟩, ht, hi, hj, k⟩ := h
    refine ⟨_, PSs.nox (pss_cons (ps_if (pt_not (pt_val (pe_meth (pv 0) (cl_Table (K := K) E) (m_Table_has_cell (K := K) E) (ok_Table_has_cell (K := K) E) (hr.mono (by decide)) (b_Table_has_cell (K := K) E) .nil pass0 (pa_cons (pv 1) pa_nil)))) (pss_one ps_never) pss_nil)
    (pss_one (ps_ret (pe_ix ix_list (pe_ix ix_list (pe_fld (pv 0) rfl) (pe_ix ix_tup (pv 1) pe_int (fun _ _ => rfl)) (fun _ _ => rfl)) (pe_ix ix_tup (pv 1) pe_int (fun _ _ => rfl)) (fun _ _ => rfl))))), ?_⟩
    refine ⟨_, rfl, p, dx, _, rfl, hp, rfl, _, rfl, p, t, m, n, i, j, c, rfl, ⟨dx, g, hp, r, hg⟩, ht, hi, hj, _, rfl, ?_⟩
    refine ⟨_, rfl, p, _, dx, _, _, rfl, hp, cl_Table E, na_Table_grid E, rfl, _, rfl, _, _, _, _, rfl, rfl, t2_at ht, rfl, _, _, _, _, rfl, rfl, SqL.of hg.o, atR _ hi, ?_⟩
    exact ⟨_, rfl, _, _, _, _, rfl, rfl, t2_at ht, rfl, _, _, _, _, rfl, rfl, SqL.of (hg.r i hi), atR _ hj, k⟩
def sp_Table__contains__ (K : PySem.W.Frag) : Sp := fun vs H Q _ => ∃ (p t : Addr) (m n i j : Nat) (c : Nat → Nat → Option Int), vs = [.ref p, .ref t] ∧ TabAt K H p m n c ∧ T2 H t i j ∧ i < m ∧ j < n ∧ (c i j).isSome = true ∧ Q (.bl true) H
theorem ok_Table__contains__ (E : TX K mg) : FnOk P w K mg base CX0 4 (a_Table__contains__ K) (fdOf K (a_Table__contains__ K)) P_Table__contains__ (sp_Table__contains__ K) := by
  refine (f_Table__contains__ E).ok sc_Table__contains__ (fun vs H Q E' h => ?_) (fun cdv A outer s H vs Q E' hr h => ?_)
  · obtain ⟨_, _, _, _, _, _, _, rfl, _⟩ := h; rfl
  · obtain ⟨p, t, m, n, i, j, c, rfl, ⟨dx, g, hp, r, hg⟩, ht, hi, hj, hc, k⟩ := h
    refine ⟨_, PSs.nox (pss_one (ps_ret (pe_and (pe_meth (pv 0) (cl_Table (K := K) E) (m_Table_has_cell (K := K) E) (ok_Table_has_cell (K := K) E) (hr.mono (by decide)) (b_Table_has_cell (K := K) E) .nil pass0 (pa_cons (pv 1) pa_nil)) (pe_one (pe_cmpR op_notN (pe_ix ix_list (pe_ix ix_list (pe_fld (pv 0) rfl) (pe_ix ix_tup (pv 1) pe_int (fun _ _ => rfl)) (fun _ _ => rfl)) (pe_ix ix_tup (pv 1) pe_int (fun _ _ => rfl)) (fun _ _ => rfl)) pe_non (nomark _)))))), ?_⟩
    refine ⟨_, rfl, p, dx, _, rfl, hp, rfl, _, rfl, p, t, m, n, i, j, c, rfl, ⟨dx, g, hp, r, hg⟩, ht, hi, hj, _, rfl, ?_⟩
    refine ⟨_, rfl, p, _, dx, _, _, rfl, hp, cl_Table E, na_Table_grid E, rfl, _, rfl, _, _, _, _, rfl, rfl, t2_at ht, rfl, _, _, _, _, rfl, rfl, SqL.of hg.o, atR _ hi, ?_⟩
    refine ⟨_, rfl, _, _, _, _, rfl, rfl, t2_at ht, rfl, _, _, _, _, rfl, rfl, SqL.of (hg.r i hi), atR _ hj, rfl, ?_⟩
    cases e : c i j with
    | none => rw [e] at hc; cases hc
    | some x => exact k
def sp_Table_rows (K : PySem.W.Frag) : Sp := fun vs H Q _ => ∃ (p : Addr) (m n : Nat) (c : Nat → Nat → Option Int), vs = [.ref p] ∧ TabAt K H p m n c ∧ m ≤ 8 ∧ ∀ H' g, Same H H' → H g = none → GridAt H' g m n c → Q (.ref g) H'
theorem ok_Table_rows (E : TX K mg) : FnOk P w K mg base CX0 1 (a_Table_rows K) (fdOf K (a_Table_rows K)) P_Table_rows (sp_Table_rows K) := by
  refine (f_Table_rows E).ok sc_Table_rows (fun vs H Q E' h => ?_) (fun cdv A outer s H vs Q E' hr h => ?_)
  · obtain ⟨_, _, _, _, rfl, _⟩ := h; rfl
  · obtain ⟨p, m, n, c, rfl, ⟨dx, g, hp, r, hg⟩, hm, k⟩ := h
    refine ⟨_, PSs.nox (pss_one (ps_ret (pe_lc (own := [("row", 1)]) rfl sc_Table_rows.nd (pi_list (pe_fld (pv 0) rfl)) (blkOk_by (own := [("row", 1)]) (N := N_Table_rows) (sc := defScope s_Table_rows) (by decide +kernel)) (fun _ _ _ _ _ => (pg_name (i := 1) sc_Table_rows.nd rfl (Or.inl rfl))) (fun _ _ _ _ _ => pts_nil) (fun _ _ _ _ _ => (pe_callTy (call_list_ofK (K := K) rfl) (by rfl) (fr_list (K := K) E) (by decide +kernel) (pa_cons (pv 1) pa_nil)))))), ?_⟩
    refine ⟨_, rfl, p, _, dx, _, _, rfl, hp, cl_Table E, na_Table_grid E, rfl, g, rfl, ⟨_, SqL.of hg.o⟩, fun D hD => ?_⟩
    refine walk_go (walk_list (xs := rg m fun i => .ref (r i))) (fun i H' => ∃ r', Part H H' D i n (fun j l => ov (c j l)) r') ⟨_, Part.nil hD⟩ (fun i H' _ ⟨r', p⟩ => SqL.of (p.s _ _ hg.o)) ?_ ?_
    · rintro i x H' H'' hi ⟨r', p⟩ ⟨rfl, hx⟩
      obtain ⟨hi', rfl⟩ := rg_of hx
      refine ⟨rfl, _, rfl, _, _, rfl, .inl (SqL.of (p.s _ _ (hg.r i hi'))), fun l hl => ?_⟩
      exact ⟨_, (upd_ne (ne_of_none p.o hl)).trans p.o, by rw [rg_len]; exact Nat.lt_of_lt_of_le hi' (Nat.le_trans hm (by decide)), _, p.step hD (Same.new hl) hl upd_same⟩
    · rintro H' ⟨r', p⟩
      rw [rg_len] at p
      exact k H' D p.s hD ⟨r', p.rows⟩
def sp_Table__init__ (K : PySem.W.Frag) : Sp := fun vs H Q _ => ∃ (p dx g : Addr) (m n : Nat) (c : Nat → Nat → Option Int), vs = [.ref p, .ref g] ∧ H p = some (.ins (c_Table K) dx []) ∧ GridAt H g m n c ∧ dim m n ∧ ∀ H', SameX p H H' → TabAt K H' p m n c → Q .non H'
theorem ok_Table__init__ (E : TX K mg) : FnOk P w K mg base CX0 4 (a_Table__init__ K) (fdOf K (a_Table__init__ K)) P_Table__init__ (sp_Table__init__ K) := by
  refine (f_Table__init__ E).ok sc_Table__init__ (fun vs H Q E' h => ?_) (fun cdv A outer s H vs Q E' hr h => ?_)
  · obtain ⟨_, _, _, _, _, _, rfl, _⟩ := h; rfl
  · obtain ⟨p, dx, g, m, n, c, rfl, hp, ⟨r, hg⟩, ⟨hm1, hm8, hn1, hn8⟩, k⟩ := h
    refine ⟨_, PSs.nox (pss_cons (ps_if (PW.pt (pw_or (pt_not (pt_val (pe_callB call_isi (by rfl) (fr_isinstance (K := K) E) (by decide +kernel) (pa_cons (pv 1) (pa_cons (pe_bltn (v := .ty "list") (by rfl) (fr_list (K := K) E) (by decide +kernel) rfl) pa_nil))))) (pw_or (pt_cmpR op_eq (pe_callB call_len_seq (by rfl) (fr_len (K := K) E) boot_len (pa_cons (pv 1) pa_nil)) pe_int (nomark _)) (pw_or1 (pt_cmpR op_gt (pe_callB call_len_seq (by rfl) (fr_len (K := K) E) boot_len (pa_cons (pv 1) pa_nil)) (pe_glob (v := .int 8) rfl (gi_MOST (K := K) E).choose_spec ⟨_, rfl⟩) (nomark _)))))) (pss_one ps_never) pss_nil)
    (pss_cons (ps_set (i := 2) sc_Table__init__.nd rfl (Or.inl rfl) (pe_call (ok_width_of (K := K) E) (hr.mono (by decide)) rfl (g_width_of (K := K) E) (k_width_of (K := K) E) (b_width_of (K := K) E) .nil pass0 (pa_cons (pv 1) pa_nil)))
    (pss_cons (ps_for PassesOwn.never rfl (pi_enum rfl (fr_enumerate (K := K) E) (pa_cons (pv 1) pa_nil)) (pg_tup rfl (pgs_cons (pg_name (i := 3) sc_Table__init__.nd rfl (Or.inl rfl)) (pgs_cons (pg_name (i := 4) sc_Table__init__.nd rfl (Or.inl rfl)) pgs_nil)))
    (pss_one (ps_if (PW.pt (pw_or (pt_cmpR op_eq (pv 2) pe_int (nomark _)) (pw_or1 (pt_not (pt_val (pe_call (ok_is_row (K := K) E) (hr.mono (by decide)) rfl (g_is_row (K := K) E) (k_is_row (K := K) E) (b_is_row (K := K) E) .nil pass0 (pa_cons (pv 4) (pa_cons (pv 2) pa_nil)))))))) (pss_one ps_never) pss_nil)))
    (pss_one (ps_fld (pv 0) (pe_lc (own := [("row", 4)]) rfl sc_Table__init__.nd (pi_list (pv 1)) (blkOk_by (own := [("row", 4)]) (N := N_Table__init__) (sc := defScope s_Table__init__) (by decide +kernel)) (fun _ _ _ _ _ => (pg_name (i := 4) sc_Table__init__.nd rfl (Or.inl rfl))) (fun _ _ _ _ _ => pts_nil) (fun _ _ _ _ _ => (pe_callTy (call_list_ofK (K := K) rfl) (by rfl) (fr_list (K := K) E) (by decide +kernel) (pa_cons (pv 4) pa_nil)))) rfl))))), ?_⟩
    refine ⟨_, rfl, _, _, _, _, _, rfl, .ty _, .base (.lst hg.o), kit_ty (r := true) (by decide +kernel), _, rfl, ?_⟩
    refine ⟨_, rfl, _, _, rfl, .inl (SqL.of hg.o), rfl, _, rfl, ?_⟩
    rw [rg_len]
    have hm0 : decide (V.int (m : Int) = V.int 0) = false := decide_eq_false fun e => by injection e with e; omega
    rw [hm0]
    refine ⟨_, rfl, _, _, rfl, .inl (SqL.of hg.o), _, _, rfl, rfl, _, rfl, ?_⟩
    rw [rg_len, decide_eq_false (show ¬ ((m : Int) > 8) by omega)]
    refine ⟨_, rfl, g, m, n, c, rfl, ⟨r, hg⟩, hm1, hn8, ?_⟩
    refine ⟨_, rfl, g, _, rfl, SqL.of hg.o, ?_⟩
    refine for_it (walk_enum (xs := rg m fun i => .ref (r i))) (fun i σ H' => ∃ v1 v2, σ = [some (.ref p), some (.ref g), some (.int (n : Int)), v1, v2] ∧ Same H H') ⟨none, none, rfl, Same.refl H⟩ (fun i σ H' hi ⟨v1, v2, e, s⟩ => SqL.of (s _ _ hg.o)) ?_ ?_
    · rintro i x σ H' H'' hi ⟨v1, v2, rfl, s⟩ ⟨T, y1, y2, rfl, hT, rfl, e1, e2⟩
      cases e1
      obtain ⟨hi', rfl⟩ := rg_of e2
      have sT := Same.new0 s hT (o := .tup [.int (i : Int), .ref (r i)])
      refine ⟨_, _, rfl, .inl (.inl upd_same), rfl, _, _, rfl, _, _, rfl, rfl, ?_⟩
      refine ⟨_, rfl, rfl, _, rfl, ?_⟩
      have hn0 : decide (V.int (n : Int) = V.int 0) = false := decide_eq_false fun e => by injection e with e; omega
      rw [hn0]
      exact ⟨_, rfl, _, rfl, r i, n, c i, rfl, sT _ _ (hg.r i hi'), _, rfl, _, _, rfl, sT⟩
    · rintro σ H1 ⟨v1, v2, rfl, s⟩
      refine ⟨_, rfl, g, rfl, ⟨_, SqL.of (s _ _ hg.o)⟩, fun D hD => ?_⟩
      refine walk_go (walk_list (xs := rg m fun i => .ref (r i))) (fun i H' => ∃ r', Part H1 H' D i n (fun j l => ov (c j l)) r') ⟨_, Part.nil hD⟩ (fun i H' _ ⟨r', p⟩ => SqL.of (p.s _ _ (s _ _ hg.o))) ?_ ?_
      · rintro i x H' H'' hi ⟨r', q⟩ ⟨rfl, hx⟩
        obtain ⟨hi', rfl⟩ := rg_of hx
        refine ⟨rfl, _, rfl, _, _, rfl, .inl (SqL.of (q.s _ _ (s _ _ (hg.r i hi')))), fun l hl => ?_⟩
        exact ⟨_, (upd_ne (ne_of_none q.o hl)).trans q.o, by rw [rg_len]; exact Nat.lt_of_lt_of_le hi' (Nat.le_trans hm8 (by decide)), _, q.step hD (Same.new hl) hl upd_same⟩
      · rintro H2 ⟨r', q⟩
        rw [rg_len] at q
        have s2 := s.trans q.s
        refine ⟨_, rfl, p, _, dx, [], rfl, s2 _ _ hp, cl_Table E, na_Table_grid E, (by show 0 < 1000; decide), ?_⟩
        have up : ∀ a xs, H2 a = some (.lst xs) → (upd H2 p (.ins (c_Table K) dx (tabF D))) a = some (.lst xs) := fun a xs e => (upd_ne (ne_of e (s2 _ _ hp) (by intro z; cases z))).trans e
        exact k _ (SameX.up (fun b o e _ => s2 b o e) (.inr rfl)) ⟨dx, D, upd_same, r', up _ _ q.o, fun i hi => up _ _ (q.r i hi).2⟩
/-- one more pair at the end of a new list -/
theorem pairs_step {H0 H : Hp} {D t : Addr} {ts : List Addr} {L : List Pr} {q : Pr} (s : Same H0 H) (hD : H0 D = none) (o : H D = some (.lst (ts.map V.ref))) (p : P2 H ts L) (ht : H t = none) :
    Same H0 (upd (upd H t (.tup [.int q.1, .int q.2])) D (.lst (ts.map V.ref ++ [.ref t]))) ∧ (upd (upd H t (.tup [.int q.1, .int q.2])) D (.lst (ts.map V.ref ++ [.ref t]))) D = some (.lst ((ts ++ [t]).map V.ref)) ∧
      P2 (upd (upd H t (.tup [.int q.1, .int q.2])) D (.lst (ts.map V.ref ++ [.ref t]))) (ts ++ [t]) (L ++ [q]) := by
  refine ⟨Same.up (Same.up s (s.free ht)) hD, by rw [upd_same, map_ref_snoc], P2.snoc (p.map fun u i j e => ?_) ?_⟩
  · show upd _ _ _ _ = _
    rw [upd_ne (ne_of e o (by intro z; cases z)), upd_ne (ne_of_none e ht)]
    exact e
  · show upd _ _ _ _ = _
    rw [upd_ne (ne_of_none o ht).symm, upd_same]
def sp_Table_pairs (K : PySem.W.Frag) : Sp := fun vs H Q _ => ∃ (p : Addr) (m n : Nat) (c : Nat → Nat → Option Int), vs = [.ref p] ∧ TabAt K H p m n c ∧ dim m n ∧ ∀ H' a, Same H H' → H a = none → PairsAt H' a (cells m n c) → Q (.ref a) H'
theorem ok_Table_pairs (E : TX K mg) : FnOk P w K mg base CX0 1 (a_Table_pairs K) (fdOf K (a_Table_pairs K)) P_Table_pairs (sp_Table_pairs K) := by
  refine (f_Table_pairs E).ok sc_Table_pairs (fun vs H Q E' h => ?_) (fun cdv A outer s H vs Q E' hr h => ?_)
  · obtain ⟨_, _, _, _, rfl, _⟩ := h; rfl
  · obtain ⟨p, m, n, c, rfl, ⟨dx, g, hp, r, hg⟩, hd, k⟩ := h
    refine ⟨_, PSs.nox (pss_one (ps_ret (pe_lc2 (vs1 := [3, 4]) (own := [("i", 1), ("row", 2), ("j", 3), ("price", 4)]) rfl sc_Table_pairs.nd (pi_enum rfl (fr_enumerate (K := K) E) (pa_cons (pe_fld (pv 0) rfl) pa_nil)) (blkOk_by (own := [("i", 1), ("row", 2), ("j", 3), ("price", 4)]) (N := N_Table_pairs) (sc := defScope s_Table_pairs) (by decide +kernel)) (by decide) (fun _ _ _ _ _ => (pg_tupK (K := K) (n := 2) rfl rfl (pgs_cons (pg_name (i := 1) sc_Table_pairs.nd rfl (Or.inl rfl)) (pgs_cons (pg_name (i := 2) sc_Table_pairs.nd rfl (Or.inl rfl)) pgs_nil)))) (fun _ _ _ _ _ => pts_nil) (fun _ _ _ _ _ => (pi_enumK (K := K) rfl rfl (fr_enumerate (K := K) E) (pa_cons (pv 2) pa_nil))) (fun _ _ _ _ _ => (pg_tupK (K := K) (n := 2) rfl rfl (pgs_cons (pg_name (i := 3) sc_Table_pairs.nd rfl (Or.inl rfl)) (pgs_cons (pg_name (i := 4) sc_Table_pairs.nd rfl (Or.inl rfl)) pgs_nil)))) (fun _ _ _ _ _ => (pts_one (pt_cmpR op_notN (pv 4) pe_non (nomark _)))) (fun _ _ _ _ _ => (pe_tup (pa_cons (pv 1) (pa_cons (pv 3) pa_nil))))))), ?_⟩
    refine ⟨_, rfl, p, _, dx, _, _, rfl, hp, cl_Table E, na_Table_grid E, rfl, g, _, rfl, SqL.of hg.o, fun D hD => ?_⟩
    refine walk_go (walk_enum (xs := rg m fun i => .ref (r i))) (fun i H' => ∃ ts, Same H H' ∧ H' D = some (.lst (ts.map V.ref)) ∧ P2 H' ts (cells i n c)) ⟨[], Same.new hD, upd_same, P2.nil _⟩ (fun i H' _ ⟨ts, s, _⟩ => SqL.of (s _ _ hg.o)) ?_ ?_
    · rintro i x H' H'' hi ⟨ts, s, o, q⟩ ⟨T, y1, y2, rfl, hT, rfl, e1, e2⟩
      cases e1
      obtain ⟨hi', rfl⟩ := rg_of e2
      have sT : Same H (upd H' T (.tup [.int (i : Int), .ref (r i)])) := Same.new0 s hT
      refine ⟨_, _, rfl, .inl (.inl upd_same), rfl, _, _, rfl, _, _, rfl, rfl, ?_⟩
      refine ⟨rfl, ?_⟩
      refine ⟨_, rfl, r i, _, rfl, SqL.of (sT _ _ (hg.r i hi')), ?_⟩
      refine walk_go (walk_enum (xs := rg n fun j => ov (c i j))) (fun j H' => ∃ ts, Same H H' ∧ H' D = some (.lst (ts.map V.ref)) ∧ P2 H' ts (cells i n c ++ cellsRow j (c i) i)) ⟨ts, sT, (upd_ne (ne_of_none o hT)).trans o, ?_⟩ (fun j H' _ ⟨ts, s, _⟩ => SqL.of (s _ _ (hg.r i hi'))) ?_ ?_
      · rw [show cellsRow 0 (c i) i = [] from rfl, List.append_nil]
        exact q.same (Same.new hT)
      · rintro j x H1 H2 hj ⟨ts1, s1, o1, q1⟩ ⟨U, z1, z2, rfl, hU, rfl, f1, f2⟩
        cases f1
        obtain ⟨hj', rfl⟩ := rg_of f2
        have sU := Same.new hU (o := .tup [.int (j : Int), ov (c i j)])
        refine ⟨_, _, rfl, .inl (.inl upd_same), rfl, _, _, rfl, _, _, rfl, rfl, ?_⟩
        refine ⟨rfl, ?_⟩
        refine ⟨_, rfl, rfl, _, rfl, ?_⟩
        have s2 := Same.new0 s1 hU (o := .tup [.int (j : Int), ov (c i j)])
        have o2 : upd H1 U (.tup [.int (j : Int), ov (c i j)]) D = _ := (upd_ne (ne_of_none o1 hU)).trans o1
        have q2 := q1.same sU
        rw [cellsRow_succ]
        cases e : c i j with
        | none => exact ⟨ts1, by rw [e] at s2; exact s2, by rw [e] at o2; exact o2, by rw [e] at q2; simpa using q2⟩
        | some x =>
          rw [e] at s2 o2 q2
          refine ⟨_, rfl, _, rfl, by show 2 ≤ sizeLine; decide, fun t ht => ?_⟩
          obtain ⟨z1, z2, z3⟩ := pairs_step (q := (i, j)) s2 hD o2 q2 ht
          refine ⟨_, (upd_ne (ne_of_none o2 ht)).trans o2, ?_, ts1 ++ [t], z1, z2, ?_⟩
          · rw [List.length_map, q1.1, List.length_append]
            have h1 := len_cells i n c
            have h2 := len_cellsRow j (c i) i
            have h3 : i * n ≤ 8 * 8 := Nat.mul_le_mul (Nat.le_trans (Nat.le_of_lt hi') hd.2.1) hd.2.2.2
            have h4 := hd.2.2.2
            refine Nat.lt_of_lt_of_le (show _ < 100 by omega) (by decide)
          · simpa using z3
      · rintro H1 ⟨ts1, s1, o1, q1⟩
        rw [rg_len] at q1
        exact ⟨ts1, s1, o1, by rw [cells_succ]; exact q1⟩
    · rintro H1 ⟨ts1, s1, o1, q1⟩
      rw [rg_len] at q1
      exact k H1 D s1 hD ⟨ts1, o1, q1⟩
def sp_Table__len__ (K : PySem.W.Frag) : Sp := fun vs H Q _ => ∃ (p : Addr) (m n : Nat) (c : Nat → Nat → Option Int), vs = [.ref p] ∧ TabAt K H p m n c ∧ dim m n ∧ ∀ H', Same H H' → Q (.int ((cells m n c).length : Int)) H'
theorem ok_Table__len__ (E : TX K mg) : FnOk P w K mg base CX0 2 (a_Table__len__ K) (fdOf K (a_Table__len__ K)) P_Table__len__ (sp_Table__len__ K) := by
  refine (f_Table__len__ E).ok sc_Table__len__ (fun vs H Q E' h => ?_) (fun cdv A outer s H vs Q E' hr h => ?_)
  · obtain ⟨_, _, _, _, rfl, _⟩ := h; rfl
  · obtain ⟨p, m, n, c, rfl, ht, hd, k⟩ := h
    refine ⟨_, PSs.nox (pss_one (ps_ret (pe_callB call_len_seq (by rfl) (fr_len (K := K) E) boot_len (pa_cons (pe_meth0 (pv 0) (cl_Table (K := K) E) (m_Table_pairs (K := K) E) (ok_Table_pairs (K := K) E) (hr.mono (by decide)) (b_Table_pairs (K := K) E) .nil pass0) pa_nil)))), ?_⟩
    have ht' := ht
    obtain ⟨dx, g, hp, _⟩ := ht'
    refine ⟨_, rfl, p, dx, _, rfl, hp, rfl, p, m, n, c, rfl, ht, hd, fun H' a s ha ⟨ts, o, q⟩ => ?_⟩
    refine ⟨_, _, rfl, .inl (SqL.of o), ?_⟩
    rw [List.length_map, q.1]
    exact k H' s
/-- an order of all the cells -/
def Whole (m n : Nat) (c : Nat → Nat → Option Int) (L : List Pr) : Prop := L.Perm (cells m n c)
theorem Whole.mem {m n : Nat} {c : Nat → Nat → Option Int} {L : List Pr} (h : Whole m n c L) {q : Pr} (hq : q ∈ L) : q.1 < m ∧ q.2 < n ∧ (c q.1 q.2).isSome = true := mem_cells.mp (List.Perm.mem_iff h |>.mp hq)
def sp_check_order (K : PySem.W.Frag) : Sp := fun vs H Q _ => ∃ (p o : Addr) (m n : Nat) (c : Nat → Nat → Option Int) (L : List Pr), vs = [.ref p, .ref o] ∧ TabAt K H p m n c ∧ OrdAt K H o L ∧ dim m n ∧ Whole m n c L ∧ ∀ H', Same H H' → Q .non H'
theorem ok_check_order (E : TX K mg) : FnOk P w K mg base CX0 5 (a_check_order K) (fdOf K (a_check_order K)) P_check_order (sp_check_order K) := by
  refine (f_check_order E).ok sc_check_order (fun vs H Q E' h => ?_) (fun cdv A outer s H vs Q E' hr h => ?_)
  · obtain ⟨_, _, _, _, _, _, rfl, _⟩ := h; rfl
  · obtain ⟨p, o, m, n, c, L, rfl, ht, ho, hd, hw, k⟩ := h
    refine ⟨_, PSs.nox (pss_cons (ps_if (pt_cmpR op_ne (pe_callB (call_lenOwn (m_Order__len__ (K := K) E) (ok_Order__len__ (K := K) E) (hr.mono (by decide)) (b_Order__len__ (K := K) E)) (by rfl) (fr_len (K := K) E) boot_len (pa_cons (pv 1) pa_nil)) (pe_callB (call_lenOwn (m_Table__len__ (K := K) E) (ok_Table__len__ (K := K) E) (hr.mono (by decide)) (b_Table__len__ (K := K) E)) (by rfl) (fr_len (K := K) E) boot_len (pa_cons (pv 0) pa_nil)) (nomark _)) (pss_one ps_never) pss_nil)
    (pss_one (ps_for PassesOwn.never rfl (pi_list (pe_meth0 (pv 1) (cl_Order (K := K) E) (m_Order_pairs (K := K) E) (ok_Order_pairs (K := K) E) (hr.mono (by decide)) (b_Order_pairs (K := K) E) .nil pass0)) (pg_name (i := 2) sc_check_order.nd rfl (Or.inl rfl))
    (pss_one (ps_if (pt_cmpR (op_notInOwn (m_Table__contains__ (K := K) E) (ok_Table__contains__ (K := K) E) (hr.mono (by decide)) (b_Table__contains__ (K := K) E)) (pv 2) (pv 0) (by rfl)) (pss_one ps_never) pss_nil))))), ?_⟩
    have ht' := ht
    obtain ⟨dx, g, hp, _⟩ := ht'
    have ho' := ho
    obtain ⟨dy, l, d, hpo, _⟩ := ho'
    have h64 := cells64 c hd
    have hlw : L.length = (cells m n c).length := List.Perm.length_eq hw
    refine ⟨_, rfl, o, dy, _, rfl, hpo, o, L, rfl, ho, L.length, rfl, by omega, _, rfl, p, dx, _, rfl, hp, p, m, n, c, rfl, ht, hd, fun H1 s1 => ⟨(cells m n c).length, rfl, by omega, rfl, _, rfl, ?_⟩⟩
    rw [hlw, decide_eq_true rfl]
    refine ⟨_, rfl, o, dy, _, rfl, s1 _ _ hpo, rfl, o, L, rfl, ho.same s1, fun H2 a s2 ha ⟨ts, oa, q⟩ => ?_⟩
    refine ⟨a, rfl, ⟨_, SqL.of oa⟩, for_list (fun i σ H' => ∃ v1, σ = [some (.ref p), some (.ref o), v1] ∧ H' = H2) ⟨none, rfl, rfl⟩ (fun i σ H' _ ⟨_, _, e⟩ => by rw [e]; exact SqL.of oa) ?_ ?_⟩
    · rintro i x σ H' hx ⟨v1, rfl, rfl⟩
      obtain ⟨t, et, rfl⟩ := map_ref_at hx
      obtain ⟨r, er, hr'⟩ := q.of et
      obtain ⟨w1, w2, w3⟩ := hw.mem (List.mem_of_getElem? er)
      exact ⟨_, rfl, _, rfl, p, dx, _, rfl, s2 _ _ (s1 _ _ hp), p, t, m, n, r.1, r.2, c, rfl, (ht.same s1).same s2, hr', w1, w2, w3, _, rfl, _, rfl, _, rfl, rfl⟩
    · rintro σ H' ⟨v1, rfl, rfl⟩
      exact k _ (s1.trans s2)
def sp_Amounts_fits_size (K : PySem.W.Frag) : Sp := fun vs H Q _ => ∃ (p t : Addr) (m n : Nat) (a b : Nat → Int) (c : Nat → Nat → Option Int), vs = [.ref p, .ref t] ∧ AmtAt K H p m n a b ∧ TabAt K H t m n c ∧ dim m n ∧ Q (.bl true) H
theorem ok_Amounts_fits_size (E : TX K mg) : FnOk P w K mg base CX0 2 (a_Amounts_fits_size K) (fdOf K (a_Amounts_fits_size K)) P_Amounts_fits_size (sp_Amounts_fits_size K) := by
  refine (f_Amounts_fits_size E).ok sc_Amounts_fits_size (fun vs H Q E' h => ?_) (fun cdv A outer s H vs Q E' hr h => ?_)
  · obtain ⟨_, _, _, _, _, _, _, rfl, _⟩ := h; rfl
  · obtain ⟨p, t, m, n, a, b, c, rfl, ⟨dx, s1, t1, hp, hs, ht⟩, hT, hd, k⟩ := h
    refine ⟨_, PSs.nox (pss_one (ps_ret (pe_and (pe_cmpR op_eq (pe_meth0 (pv 1) (cl_Table (K := K) E) (m_Table_stocks (K := K) E) (ok_Table_stocks (K := K) E) (hr.mono (by decide)) (b_Table_stocks (K := K) E) .nil pass0) (pe_callB call_len_seq (by rfl) (fr_len (K := K) E) boot_len (pa_cons (pe_fld (pv 0) rfl) pa_nil)) (nomark _)) (pe_one (pe_cmpR op_eq (pe_meth0 (pv 1) (cl_Table (K := K) E) (m_Table_wishes (K := K) E) (ok_Table_wishes (K := K) E) (hr.mono (by decide)) (b_Table_wishes (K := K) E) .nil pass0) (pe_callB call_len_seq (by rfl) (fr_len (K := K) E) boot_len (pa_cons (pe_fld (pv 0) rfl) pa_nil)) (nomark _)))))), ?_⟩
    have hT' := hT
    obtain ⟨dt, g, hpt, _⟩ := hT'
    refine ⟨_, rfl, t, dt, _, rfl, hpt, rfl, t, m, n, c, rfl, hT, ?_⟩
    refine ⟨_, rfl, p, _, dx, _, _, rfl, hp, cl_Amounts E, na_Amounts_stock_list E, rfl, _, _, rfl, .inl (SqL.of hs), rfl, _, rfl, ?_⟩
    rw [rg_len, decide_eq_true rfl]
    refine ⟨_, rfl, t, dt, _, rfl, hpt, rfl, t, m, n, c, rfl, hT, hd.1, ?_⟩
    refine ⟨_, rfl, p, _, dx, _, _, rfl, hp, cl_Amounts E, na_Amounts_wish_list E, rfl, _, _, rfl, .inl (SqL.of ht), rfl, ?_⟩
    rw [rg_len]
    show Q (.bl (decide (V.int (n : Int) = V.int (n : Int)))) _
    rw [decide_eq_true rfl]
    exact k
def sp_check_size (K : PySem.W.Frag) : Sp := fun vs H Q _ => ∃ (t p : Addr) (m n : Nat) (a b : Nat → Int) (c : Nat → Nat → Option Int), vs = [.ref t, .ref p] ∧ AmtAt K H p m n a b ∧ TabAt K H t m n c ∧ dim m n ∧ Q .non H
theorem ok_check_size (E : TX K mg) : FnOk P w K mg base CX0 3 (a_check_size K) (fdOf K (a_check_size K)) P_check_size (sp_check_size K) := by
  refine (f_check_size E).ok sc_check_size (fun vs H Q E' h => ?_) (fun cdv A outer s H vs Q E' hr h => ?_)
  · obtain ⟨_, _, _, _, _, _, _, rfl, _⟩ := h; rfl
  · obtain ⟨t, p, m, n, a, b, c, rfl, hA, hT, hd, k⟩ := h
    refine ⟨_, PSs.nox (pss_one (ps_if (pt_not (pt_val (pe_meth (pv 1) (cl_Amounts (K := K) E) (m_Amounts_fits_size (K := K) E) (ok_Amounts_fits_size (K := K) E) (hr.mono (by decide)) (b_Amounts_fits_size (K := K) E) .nil pass0 (pa_cons (pv 0) pa_nil)))) (pss_one ps_never) pss_nil)), ?_⟩
    have hA' := hA
    obtain ⟨dx, s1, t1, hp, hs, ht⟩ := hA'
    exact ⟨_, rfl, p, dx, _, rfl, hp, rfl, _, rfl, p, t, m, n, a, b, c, rfl, hA, hT, hd, _, rfl, k⟩
end
end K78
end
section
set_option Elab.async false
set_option linter.all false
set_option maxRecDepth 100000
set_option maxHeartbeats 4000000
namespace K78
open PySem PySem.Spec PyProof.Rows L2 He
section
variable {P : Program} {w : World} {K : PySem.W.Frag} {mg : Str → Option Value} {base : Heap}
theorem fn_of {x qual : Str} {params : Arguments} {body : List Stmt} {scope : Scope} {dvs : List V} {kws : List (Str × V)} {f : Addr} {fd : FuncData} (F : FunD K x qual params body scope dvs kws f fd) : PySem.W.fnIn K f = true := by
  obtain ⟨oc, od, dV, kV, doc, pm, an, cdv, ct, osl, _, lk, _⟩ := F.ex
  unfold PySem.W.fnIn
  rw [lk]
theorem fn_Table__getitem__ (E : TX K mg) : PySem.W.fnIn K (a_Table__getitem__ K) = true := fn_of (f_Table__getitem__ E)
theorem fn_Serving__getitem__ (E : TX K mg) : PySem.W.fnIn K (a_Serving__getitem__ K) = true := fn_of (f_Serving__getitem__ E)
theorem co_Server__call__ (E : TX K mg) : StX.CallO K (c_Server K) (a_Server__call__ K) := ⟨(m_Server__call__ E).at_, (m_Server__call__ E).fn, fn_of (f_Server__call__ E)⟩
theorem fnR_of {CX : CXT} {k : Nat} {f : Addr} {fd : FuncData} {ps : List Str} {sp : Sp} (F : FnOk P w K mg base CX k f fd ps sp) (hb : Binds K fd ps []) : FnR P w K mg base CX k f sp := fun A outer s H us vs Q E hr e0 r h => by
  have hl : us.length = ps.length := by rw [← r.length]; exact F.len _ _ _ _ h
  have hb' := hb s us (e0.mod.kin.keeps fun b o e => (e0.bs b o e).1) (by rw [List.append_nil]; exact hl)
  rw [List.append_nil] at hb'
  exact F.run A outer s H ⟨us, []⟩ us vs Q E hr e0 hb' r h
theorem take_snoc {α : Type} {L : List α} {i : Nat} {q : α} (e : L[i]? = some q) : L.take (i + 1) = L.take i ++ [q] := by
  rw [List.take_add_one, e]; rfl
/-! ### Serving -/
def svF (t a d : Addr) : List (Str × V) := [("held_table", V.ref t), ("held_amounts", V.ref a), ("served", V.ref d)]
def SvAt (K : PySem.W.Frag) (H : Hp) (p : Addr) (m n : Nat) (c : Nat → Nat → Option Int) (f : Pr → Int) : Prop := ∃ dx t a d, H p = some (.ins (c_Serving K) dx (svF t a d)) ∧ TabAt K H t m n c ∧ DmAt H d (cells m n c) (fun q => .int (f q))
theorem SvAt.same {H H' : Hp} {p : Addr} {m n : Nat} {c : Nat → Nat → Option Int} {f : Pr → Int} (h : SvAt K H p m n c f) (s : Same H H') : SvAt K H' p m n c f := let ⟨dx, t, a, d, e, q, r⟩ := h; ⟨dx, t, a, d, s _ _ e, q.same s, s _ _ r⟩
theorem TabAt.sx {H H' : Hp} {p t : Addr} {m n : Nat} {c : Nat → Nat → Option Int} (h : TabAt K H t m n c) (s : SameX p H H') (hp : p ≠ t) (hk : ∀ g xs, H g = some (.lst xs) → g ≠ p) : TabAt K H' t m n c :=
  let ⟨dx, g, e, r, q⟩ := h; ⟨dx, g, s _ _ e hp.symm, r, s _ _ q.o (hk _ _ q.o), fun i hi => s _ _ (q.r i hi) (hk _ _ (q.r i hi))⟩
def sp_Serving__init__ (K : PySem.W.Frag) : Sp := fun vs H Q _ => ∃ (p dx t a d : Addr) (m n : Nat) (c : Nat → Nat → Option Int) (L : List Pr) (f : Pr → Int), vs = [.ref p, .ref t, .ref a, .ref d] ∧ H p = some (.ins (c_Serving K) dx []) ∧ p ≠ t ∧ TabAt K H t m n c ∧ dim m n ∧
  DmAt H d L (fun q => .int (f q)) ∧ (∀ q, q ∈ cells m n c → q ∈ L) ∧ ∀ H', SameX p H H' → SvAt K H' p m n c f → Q .non H'
theorem ok_Serving__init__ (E : TX K mg) : FnOk P w K mg base CX0 2 (a_Serving__init__ K) (fdOf K (a_Serving__init__ K)) P_Serving__init__ (sp_Serving__init__ K) := by
  refine (f_Serving__init__ E).ok sc_Serving__init__ (fun vs H Q E' h => ?_) (fun cdv A outer s H vs Q E' hr h => ?_)
  · obtain ⟨_, _, _, _, _, _, _, _, _, _, rfl, _⟩ := h; rfl
  · obtain ⟨p, dx, t, a, d, m, n, c, L, f, rfl, hp, npt, ht, hd, hf, hL, k⟩ := h
    refine ⟨_, PSs.nox (pss_cons (ps_fld (pv 0) (pv 1) rfl)
    (pss_cons (ps_fld (pv 0) (pv 2) rfl)
    (pss_one (ps_fld (pv 0) (pe_dcT (own := [("pair", 4)]) (hu_of hr) rfl sc_Serving__init__.nd (pi_list (pe_meth0 (pv 1) (cl_Table (K := K) E) (m_Table_pairs (K := K) E) (ok_Table_pairs (K := K) E) (hr.mono (by decide)) (b_Table_pairs (K := K) E) .nil pass0)) (blkOk_by (own := [("pair", 4)]) (N := N_Serving__init__) (sc := defScope s_Serving__init__) (by decide +kernel)) (fun _ _ _ _ _ => (pg_name (i := 4) sc_Serving__init__.nd rfl (Or.inl rfl))) (fun _ _ _ _ _ => (pv 4)) (fun _ _ _ _ _ => (pe_dget (hu_of hr) (pv 3) (pv 4) (fun _ _ => rfl)))) rfl)))), ?_⟩
    refine ⟨_, rfl, _, rfl, p, _, dx, [], rfl, hp, cl_Serving E, na_Serving_held_table E, (by show 0 < 1000; decide), ?_⟩
    refine ⟨_, rfl, _, rfl, p, _, dx, _, rfl, upd_same, cl_Serving E, na_Serving_held_amounts E, (by show 1 < 1000; decide), ?_⟩
    have sx : SameX p H (upd (upd H p (.ins (c_Serving K) dx [("held_table", V.ref t)])) p (.ins (c_Serving K) dx [("held_table", V.ref t), ("held_amounts", V.ref a)])) := SameX.up (SameX.up (SameX.refl p H) (.inr rfl)) (.inr rfl)
    have kl : ∀ g xs, H g = some (.lst xs) → g ≠ p := fun g xs e => ne_of e hp (by intro z; cases z)
    have ht1 := ht.sx sx npt kl
    obtain ⟨H1, e1⟩ : ∃ H1, upd (upd H p (.ins (c_Serving K) dx [("held_table", V.ref t)])) p (.ins (c_Serving K) dx [("held_table", V.ref t), ("held_amounts", V.ref a)]) = H1 := ⟨_, rfl⟩
    have hp1 : H1 p = some (.ins (c_Serving K) dx [("held_table", V.ref t), ("held_amounts", V.ref a)]) := by rw [← e1]; exact upd_same
    rw [e1] at sx ht1
    have hd1 : DmAt H1 d L (fun q => .int (f q)) := sx _ _ hf (ne_of hf hp (by intro z; cases z))
    obtain ⟨dt, g, hpt, hg⟩ := id ht1
    refine ⟨_, rfl, t, dt, _, rfl, (by rw [← e1] at hpt; exact hpt), rfl, t, m, n, c, rfl, (by rw [← e1] at ht1; exact ht1), hd, fun H2 l s2 hl ⟨ts, ol, q⟩ => ?_⟩
    replace s2 : Same H1 H2 := by rw [← e1]; exact s2
    refine ⟨l, rfl, ⟨_, SqL.of ol⟩, fun D hD => ?_⟩
    refine walk_go (walk_list (xs := ts.map V.ref)) (fun i H' => Same H2 H' ∧ DmAt H' D ((cells m n c).take i) (fun q => .int (f q))) ⟨Same.new hD, upd_same⟩ (fun i H' _ ⟨s, _⟩ => SqL.of (s _ _ ol)) ?_ ?_
    · rintro i x H' H'' hi ⟨s, o⟩ ⟨rfl, hx⟩
      obtain ⟨t', et, rfl⟩ := map_ref_at hx
      obtain ⟨r, er, hr'⟩ := q.of et
      have hr2 := s _ _ hr'
      have hd2 := s _ _ (s2 _ _ hd1)
      refine ⟨rfl, _, rfl, _, rfl, _, rfl, d, _, rfl, dm_get_in hd2 hr2 (hL _ (List.mem_of_getElem? er)), t', _, _, rfl, ky_tup hr2, o, ?_, Same.up s hD, ?_⟩
      · rw [dm_len, List.length_take]
        exact Nat.lt_of_le_of_lt (Nat.le_trans (Nat.min_le_right _ _) (cells64 c hd)) (by decide)
      · show upd _ _ _ _ = _
        rw [upd_same, take_snoc er, dm_put_new (f := fun q => .int (f q)) (nodup_take_not_mem (nodup_cells m n c) er)]
    · rintro H3 ⟨s3, o⟩
      rw [List.length_map, q.1, List.take_length] at o
      have s4 := s2.trans s3
      refine ⟨_, rfl, p, _, dx, _, rfl, s4 _ _ hp1, cl_Serving E, na_Serving_served E, (by show 2 < 1000; decide), ?_⟩
      have s5 : SameX p H1 (upd H3 p (.ins (c_Serving K) dx (svF t a D))) := SameX.up (fun b o e _ => s4 b o e) (.inr rfl)
      have npD : D ≠ p := ne_of o (s4 _ _ hp1) (by intro z; cases z)
      refine k _ (fun b o e hb => s5 b o (sx b o e hb) hb) ⟨dx, t, a, D, upd_same, ht1.sx s5 npt (fun g xs e => ne_of e hp1 (by intro z; cases z)), (upd_ne npD).trans o⟩
def sp_Serving__getitem__ (K : PySem.W.Frag) : Sp := fun vs H Q _ => ∃ (p t : Addr) (m n : Nat) (c : Nat → Nat → Option Int) (f : Pr → Int) (q : Pr), vs = [.ref p, .ref t] ∧ SvAt K H p m n c f ∧ T2 H t q.1 q.2 ∧ q ∈ cells m n c ∧ Q (.int (f q)) H
theorem ok_Serving__getitem__ (E : TX K mg) : FnOk P w K mg base CX0 5 (a_Serving__getitem__ K) (fdOf K (a_Serving__getitem__ K)) P_Serving__getitem__ (sp_Serving__getitem__ K) := by
  refine (f_Serving__getitem__ E).ok sc_Serving__getitem__ (fun vs H Q E' h => ?_) (fun cdv A outer s H vs Q E' hr h => ?_)
  · obtain ⟨_, _, _, _, _, _, _, rfl, _⟩ := h; rfl
  · obtain ⟨p, t, m, n, c, f, q, rfl, ⟨dx, tb, a, d, hp, ht, hf⟩, hq, hc, k⟩ := h
    refine ⟨_, PSs.nox (pss_cons (ps_if (pt_cmpR (op_notInOwn (m_Table__contains__ (K := K) E) (ok_Table__contains__ (K := K) E) (hr.mono (by decide)) (b_Table__contains__ (K := K) E)) (pv 1) (pe_fld (pv 0) rfl) (by rfl)) (pss_one ps_never) pss_nil)
    (pss_one (ps_ret (pe_dget (hu_of hr) (pe_fld (pv 0) rfl) (pv 1) (fun _ _ => rfl))))), ?_⟩
    obtain ⟨dt, g, hpt, _⟩ := id ht
    obtain ⟨c1, c2, c3⟩ := mem_cells.mp hc
    refine ⟨_, rfl, _, rfl, p, _, dx, _, _, rfl, hp, cl_Serving E, na_Serving_held_table E, rfl, tb, dt, _, rfl, hpt, tb, t, m, n, q.1, q.2, c, rfl, ht, hq, c1, c2, c3, _, rfl, _, rfl, ?_⟩
    exact ⟨_, rfl, p, _, dx, _, _, rfl, hp, cl_Serving E, na_Serving_served E, rfl, _, rfl, d, _, rfl, dm_get_in hf hq hc, k⟩
/-- a list of (pair, amount) -/
def MvAt (H : Hp) (a : Addr) (L : List Pr) (f : Pr → Int) : Prop := ∃ us : List Addr, H a = some (.lst (us.map V.ref)) ∧ us.length = L.length ∧ ∀ (k : Nat) (u : Addr) (q : Pr), us[k]? = some u → L[k]? = some q → ∃ t, H u = some (.tup [.ref t, .int (f q)]) ∧ T2 H t q.1 q.2
def sp_Serving_moved (K : PySem.W.Frag) : Sp := fun vs H Q _ => ∃ (p : Addr) (m n : Nat) (c : Nat → Nat → Option Int) (f : Pr → Int), vs = [.ref p] ∧ SvAt K H p m n c f ∧ dim m n ∧ ∀ H' a, Same H H' → H a = none → MvAt H' a ((cells m n c).filter fun q => decide (f q > 0)) f → Q (.ref a) H'
theorem ok_Serving_moved (E : TX K mg) : FnOk P w K mg base CX0 2 (a_Serving_moved K) (fdOf K (a_Serving_moved K)) P_Serving_moved (sp_Serving_moved K) := by
  refine (f_Serving_moved E).ok sc_Serving_moved (fun vs H Q E' h => ?_) (fun cdv A outer s H vs Q E' hr h => ?_)
  · obtain ⟨_, _, _, _, _, rfl, _⟩ := h; rfl
  · obtain ⟨p, m, n, c, f, rfl, ⟨dx, tb, a, d, hp, ht, hf⟩, hd, k⟩ := h
    refine ⟨_, PSs.nox (pss_one (ps_ret (pe_lc (own := [("pair", 1)]) rfl sc_Serving_moved.nd (pi_list (pe_meth0 (pe_fld (pv 0) rfl) (cl_Table (K := K) E) (m_Table_pairs (K := K) E) (ok_Table_pairs (K := K) E) (hr.mono (by decide)) (b_Table_pairs (K := K) E) .nil pass0)) (blkOk_by (own := [("pair", 1)]) (N := N_Serving_moved) (sc := defScope s_Serving_moved) (by decide +kernel)) (fun _ _ _ _ _ => (pg_name (i := 1) sc_Serving_moved.nd rfl (Or.inl rfl))) (fun _ _ _ _ _ => (pts_one (pt_cmpR op_gt (pe_dget (hu_of hr) (pe_fldK (K := K) rfl (pv 0) rfl) (pv 1) (fun _ _ => rfl)) pe_int (nomark _)))) (fun _ _ _ _ _ => (pe_tup (pa_cons (pv 1) (pa_cons (pe_dget (hu_of hr) (pe_fldK (K := K) rfl (pv 0) rfl) (pv 1) (fun _ _ => rfl)) pa_nil))))))), ?_⟩
    obtain ⟨dt, g, hpt, _⟩ := id ht
    refine ⟨_, rfl, p, _, dx, _, _, rfl, hp, cl_Serving E, na_Serving_held_table E, rfl, tb, dt, _, rfl, hpt, rfl, tb, m, n, c, rfl, ht, hd, fun H2 l s2 hl ⟨ts, ol, q⟩ => ?_⟩
    refine ⟨l, rfl, ⟨_, SqL.of ol⟩, fun D hD => ?_⟩
    refine walk_go (walk_list (xs := ts.map V.ref)) (fun i H' => Same H2 H' ∧ MvAt H' D (((cells m n c).take i).filter fun q => decide (f q > 0)) f) ⟨Same.new hD, [], upd_same, rfl, fun _ _ _ e => nomatch e⟩ (fun i H' _ ⟨s, _⟩ => SqL.of (s _ _ ol)) ?_ ?_
    · rintro i x H' H'' hi ⟨s, us, o, hl', hu⟩ ⟨rfl, hx⟩
      obtain ⟨t', et, rfl⟩ := map_ref_at hx
      obtain ⟨r, er, hr'⟩ := q.of et
      have hr2 := s _ _ hr'
      have hf2 := s _ _ (s2 _ _ hf)
      have hp2 := s _ _ (s2 _ _ hp)
      have hrc := List.mem_of_getElem? er
      refine ⟨rfl, _, rfl, p, _, dx, _, _, rfl, hp2, cl_Serving E, na_Serving_served E, rfl, _, rfl, d, _, rfl, dm_get_in hf2 hr2 hrc, _, _, rfl, rfl, _, rfl, ?_⟩
      rw [take_snoc er, List.filter_append]
      refine ite2 (fun hc => ?_) (fun hc => ?_)
      · have hf1 : List.filter (fun q => decide (f q > 0)) [r] = [r] := List.filter_cons_of_pos (p := fun q => decide (f q > 0)) hc
        rw [hf1]
        refine ⟨_, rfl, _, rfl, p, _, dx, _, _, rfl, hp2, cl_Serving E, na_Serving_served E, rfl, _, rfl, d, _, rfl, dm_get_in hf2 hr2 hrc, by show 2 ≤ sizeLine; decide, fun u hu0 => ?_⟩
        have nDu := ne_of_none o hu0
        refine ⟨_, (upd_ne nDu).trans o, ?_, Same.up (Same.up s (s.free hu0)) hD, us ++ [u], by rw [upd_same, map_ref_snoc], ?_, fun j u' q' e1 e2 => ?_⟩
        · rw [List.length_map, hl']
          exact Nat.lt_of_le_of_lt (Nat.le_trans (List.length_filter_le _ _) (by rw [List.length_take]; exact Nat.le_trans (Nat.min_le_right _ _) (cells64 c hd))) (by decide)
        · rw [List.length_append, List.length_append, hl']; rfl
        · have keep : ∀ b xs, (H'' b = some (.tup xs)) → upd (upd H'' u (.tup [.ref t', .int (f r)])) D (.lst (us.map V.ref ++ [.ref u])) b = some (.tup xs) := fun b xs e => by
            rw [upd_ne (ne_of e o (by intro z; cases z)), upd_ne (ne_of_none e hu0)]
            exact e
          by_cases hj : j < us.length
          · rw [List.getElem?_append_left hj] at e1
            rw [List.getElem?_append_left (by rw [← hl']; exact hj)] at e2
            obtain ⟨t2, z1, z2⟩ := hu j u' q' e1 e2
            exact ⟨t2, keep _ _ z1, keep _ _ z2⟩
          · have h1 := (List.getElem?_eq_some_iff.mp e1).1
            rw [List.length_append, List.length_singleton] at h1
            have h2 : j = us.length := by omega
            subst h2
            rw [List.getElem?_append_right (Nat.le_refl _), Nat.sub_self] at e1
            rw [List.getElem?_append_right (by rw [hl']; exact Nat.le_refl _), hl', Nat.sub_self] at e2
            cases e1
            cases e2
            exact ⟨t', by rw [upd_ne nDu.symm, upd_same], keep _ _ hr2⟩
      · have hf1 : List.filter (fun q => decide (f q > 0)) [r] = [] := List.filter_cons_of_neg (p := fun q => decide (f q > 0)) hc
        rw [hf1]
        refine ⟨s, us, o, ?_, ?_⟩
        · rw [List.append_nil]; exact hl'
        · rw [List.append_nil]; exact hu
    · rintro H3 ⟨s3, o⟩
      rw [List.length_map, q.1, List.take_length] at o
      exact k H3 D (s2.trans s3) (s2.free hD) o
end
end K78
end
section
set_option Elab.async false
set_option linter.all false
set_option maxRecDepth 100000
set_option maxHeartbeats 4000000
namespace K78
open PySem PySem.Spec PyProof.Rows L2 He
section
variable {P : Program} {w : World} {K : PySem.W.Frag} {mg : Str → Option Value} {base : Heap}
def vl (c : Nat → Nat → Option Int) (q : Pr) : Int := (c q.1 q.2).getD 0
theorem ov_vl {c : Nat → Nat → Option Int} {q : Pr} (h : (c q.1 q.2).isSome = true) : ov (c q.1 q.2) = .int (vl c q) := by
  unfold vl
  cases e : c q.1 q.2 with
  | none => rw [e] at h; cases h
  | some x => rfl
abbrev Bd (k : Nat) (x : Int) : Prop := x.natAbs < 2 ^ k
/-- what the moved pairs cost -/
def costS (c : Nat → Nat → Option Int) (m n : Nat) (f : Pr → Int) : Int := (((cells m n c).filter fun q => decide (f q > 0)).map fun q => vl c q * f q).sum
def sp_Serving_cost (K : PySem.W.Frag) : Sp := fun vs H Q _ => ∃ (p : Addr) (m n : Nat) (c : Nat → Nat → Option Int) (f : Pr → Int), vs = [.ref p] ∧ SvAt K H p m n c f ∧ dim m n ∧ (∀ q, q ∈ cells m n c → Bd 1000 (vl c q) ∧ Bd 1000 (f q)) ∧ ∀ H', Same H H' → Q (.int (costS c m n f)) H'
theorem ok_Serving_cost (E : TX K mg) : FnOk P w K mg base CX0 6 (a_Serving_cost K) (fdOf K (a_Serving_cost K)) P_Serving_cost (sp_Serving_cost K) := by
  refine (f_Serving_cost E).ok sc_Serving_cost (fun vs H Q E' h => ?_) (fun cdv A outer s H vs Q E' hr h => ?_)
  · obtain ⟨_, _, _, _, _, rfl, _⟩ := h; rfl
  · obtain ⟨p, m, n, c, f, rfl, hs, hd, hB, k⟩ := h
    refine ⟨_, PSs.nox (pss_one (ps_ret (pe_callB (cr_sum rfl) (by rfl) (fr_sum (K := K) E) (by decide +kernel) (pa_cons (pe_lc (own := [("pair", 1), ("amount", 2)]) rfl sc_Serving_cost.nd (pi_list (pe_meth0 (pv 0) (cl_Serving (K := K) E) (m_Serving_moved (K := K) E) (ok_Serving_moved (K := K) E) (hr.mono (by decide)) (b_Serving_moved (K := K) E) .nil pass0)) (blkOk_by (own := [("pair", 1), ("amount", 2)]) (N := N_Serving_cost) (sc := defScope s_Serving_cost) (by decide +kernel)) (fun _ _ _ _ _ => (pg_tupK (K := K) (n := 2) rfl rfl (pgs_cons (pg_name (i := 1) sc_Serving_cost.nd rfl (Or.inl rfl)) (pgs_cons (pg_name (i := 2) sc_Serving_cost.nd rfl (Or.inl rfl)) pgs_nil)))) (fun _ _ _ _ _ => pts_nil) (fun _ _ _ _ _ => (pe_op op_mulW (pe_getOwn (fn_Table__getitem__ (K := K) E) (m_Table__getitem__ (K := K) E) (ok_Table__getitem__ (K := K) E) (hr.mono (by decide)) (b_Table__getitem__ (K := K) E) (pe_fldK (K := K) rfl (pv 0) rfl) (pv 1)) (pv 2)))) pa_nil)))), ?_⟩
    obtain ⟨dx, tb, a, d, hp, ht, hf⟩ := id hs
    obtain ⟨dt, g, hpt, _⟩ := id ht
    refine ⟨_, rfl, p, dx, _, rfl, hp, rfl, p, m, n, c, f, rfl, hs, hd, fun H2 l s2 hl ⟨us, ol, hlu, hu⟩ => ?_⟩
    refine ⟨l, rfl, ⟨_, SqL.of ol⟩, fun D hD => ?_⟩
    obtain ⟨L, eL⟩ : ∃ L, ((cells m n c).filter fun q => decide (f q > 0)) = L := ⟨_, rfl⟩
    have hL : ∀ q ∈ L, q ∈ cells m n c := fun q hq => by rw [← eL] at hq; exact (List.mem_filter.mp hq).1
    have hLn : L.length ≤ 64 := by rw [← eL]; exact Nat.le_trans (List.length_filter_le _ _) (cells64 c hd)
    rw [eL] at hlu hu
    refine walk_go (walk_list (xs := us.map V.ref)) (fun i H' => Same H2 H' ∧ H' D = some (.lst (((L.take i).map fun q => vl c q * f q).map V.int))) ⟨Same.new hD, upd_same⟩ (fun i H' _ ⟨s, _⟩ => SqL.of (s _ _ ol)) ?_ ?_
    · rintro i x H' H'' hi ⟨s, o⟩ ⟨rfl, hx⟩
      obtain ⟨u, eu, rfl⟩ := map_ref_at hx
      rw [List.length_map, hlu] at hi
      have er : L[i]? = some L[i] := List.getElem?_eq_getElem hi
      obtain ⟨t, h1, h2⟩ := hu i u _ eu er
      have hc := hL _ (List.mem_of_getElem? er)
      obtain ⟨c1, c2, c3⟩ := mem_cells.mp hc
      obtain ⟨b1, b2⟩ := hB _ hc
      refine ⟨_, _, rfl, .inl (.inl (s _ _ h1)), rfl, _, _, rfl, _, _, rfl, rfl, ?_⟩
      refine ⟨rfl, ?_⟩
      refine ⟨_, rfl, p, _, dx, _, _, rfl, s _ _ (s2 _ _ hp), cl_Serving E, na_Serving_held_table E, rfl, _, rfl, tb, dt, _, rfl, s _ _ (s2 _ _ hpt), tb, t, m, n, _, _, c, rfl, (ht.same s2).same s, s _ _ h2, c1, c2, ?_⟩
      rw [ov_vl c3]
      refine ⟨_, rfl, _, _, rfl, rfl, wide_mul b1 b2 (by decide) (by decide) (by decide), _, o, ?_, Same.up s hD, ?_⟩
      · rw [List.length_map, List.length_map, List.length_take]
        exact Nat.lt_of_le_of_lt (Nat.le_trans (Nat.min_le_right _ _) hLn) (by decide)
      · rw [upd_same, take_snoc er, List.map_append, List.map_append]; rfl
    · rintro H3 ⟨s3, o⟩
      rw [List.length_map, hlu, List.take_length] at o
      refine ⟨D, _, rfl, SqL.of o, ?_⟩
      have := k H3 (s2.trans s3)
      unfold costS at this
      rw [eL] at this
      exact this
theorem tif2 {ta tb : TE} {σ : L2.St} {H : Hp} {Q : VK} {b : Bool} {v : Int} (h1 : b = true → Q (.int v) H → ta σ H Q) (h2 : b = false → Q (.int v) H → tb σ H Q) (h : Q (.int v) H) : if b = true then ta σ H Q else tb σ H Q := by
  cases b with
  | true => exact iteT (h1 rfl h)
  | false => exact iteF (h2 rfl h)
/-! ### Server -/
def srF (t o : Addr) : List (Str × V) := [("held_table", V.ref t), ("held_order", V.ref o)]
def sp_Server__init__ (K : PySem.W.Frag) : Sp := fun vs H Q _ => ∃ (p dx t o : Addr) (m n : Nat) (c : Nat → Nat → Option Int) (L : List Pr), vs = [.ref p, .ref t, .ref o] ∧ H p = some (.ins (c_Server K) dx []) ∧ TabAt K H t m n c ∧ OrdAt K H o L ∧ dim m n ∧ Whole m n c L ∧
  ∀ H', SameX p H H' → H' p = some (.ins (c_Server K) dx (srF t o)) → Q .non H'
theorem ok_Server__init__ (E : TX K mg) : FnOk P w K mg base CX0 6 (a_Server__init__ K) (fdOf K (a_Server__init__ K)) P_Server__init__ (sp_Server__init__ K) := by
  refine (f_Server__init__ E).ok sc_Server__init__ (fun vs H Q E' h => ?_) (fun cdv A outer s H vs Q E' hr h => ?_)
  · obtain ⟨_, _, _, _, _, _, _, _, rfl, _⟩ := h; rfl
  · obtain ⟨p, dx, t, o, m, n, c, L, rfl, hp, ht, ho, hd, hw, k⟩ := h
    refine ⟨_, PSs.nox (pss_cons (ps_expr (pe_call (ok_check_order (K := K) E) (hr.mono (by decide)) rfl (g_check_order (K := K) E) (k_check_order (K := K) E) (b_check_order (K := K) E) .nil pass0 (pa_cons (pv 1) (pa_cons (pv 2) pa_nil))))
    (pss_cons (ps_fld (pv 0) (pv 1) rfl)
    (pss_one (ps_fld (pv 0) (pv 2) rfl)))), ?_⟩
    refine ⟨_, rfl, _, rfl, t, o, m, n, c, L, rfl, ht, ho, hd, hw, fun H1 s1 => ?_⟩
    refine ⟨_, rfl, _, rfl, p, _, dx, [], rfl, s1 _ _ hp, cl_Server E, na_Server_held_table E, (by show 0 < 1000; decide), ?_⟩
    refine ⟨_, rfl, _, rfl, p, _, dx, _, rfl, upd_same, cl_Server E, na_Server_held_order E, (by show 1 < 1000; decide), ?_⟩
    exact k _ (SameX.up (SameX.up (fun b u e _ => s1 b u e) (.inr rfl)) (.inr rfl)) upd_same
def sp_Server__call__ (K : PySem.W.Frag) : Sp := fun vs H Q _ => ∃ (p dx t o am : Addr) (m n : Nat) (c : Nat → Nat → Option Int) (L : List Pr) (a b : Nat → Int), vs = [.ref p, .ref am] ∧ H p = some (.ins (c_Server K) dx (srF t o)) ∧ TabAt K H t m n c ∧ OrdAt K H o L ∧ dim m n ∧ Whole m n c L ∧ AmtAt K H am m n a b ∧
  ∀ H' s f, Same H H' → H s = none → SvAt K H' s m n c f → serve L a b = L.map (fun q => (q, f q)) → Q (.ref s) H'
theorem ok_Server__call__ (E : TX K mg) : FnOk P w K mg base CX0 8 (a_Server__call__ K) (fdOf K (a_Server__call__ K)) P_Server__call__ (sp_Server__call__ K) := by
  refine (f_Server__call__ E).ok sc_Server__call__ (fun vs H Q E' h => ?_) (fun cdv A outer s H vs Q E' hr h => ?_)
  · obtain ⟨_, _, _, _, _, _, _, _, _, _, _, rfl, _⟩ := h; rfl
  · obtain ⟨p, dx, t, o, am, m, n, c, L, a, b, rfl, hp, ht, ho, hd, hw, ham, k⟩ := h
    obtain ⟨oc, od, dV, kV, doc, pm, an, cdv2, ct, osl, efd, lk, hcd, _, _⟩ := (f_Server_steps E).ex
    have hb := b_Server_steps E
    rw [efd] at hb lk
    refine ⟨_, PSs.nox (pss_cons (ps_set (i := 2) sc_Server__call__.nd rfl (Or.inl rfl) pe_dnewT)
      (pss_cons (ps_forGen (k0 := 3) (d := 2) (p := 3) (a := 4) (pre := (defBody s_Server_steps).take 3) PassesOwn.never rfl (hu_of hr) (pv 0) (cl_Server E) (m_Server_steps E) lk hcd sc_Server_steps ⟨rfl, by decide +kernel, fun _ => rfl⟩
        ⟨by rfl, fun cdv A n s H hr => (pss_cons (ps_expr (pe_call (ok_check_size (K := K) E) (hr.mono (by decide)) rfl (g_check_size (K := K) E) (k_check_size (K := K) E) (b_check_size (K := K) E) .nil pass0 (pa_cons (pe_fldK (K := K) rfl (pv 0) rfl) (pa_cons (pv 1) pa_nil))))
    (pss_cons (ps_set (i := 2) sc_Server_steps.nd rfl (Or.inl rfl) (pe_meth0 (pv 1) (cl_Amounts (K := K) E) (m_Amounts_stocks (K := K) E) (ok_Amounts_stocks (K := K) E) (hr.mono (by decide)) (b_Amounts_stocks (K := K) E) .nil pass0))
    (pss_one (ps_set (i := 3) sc_Server_steps.nd rfl (Or.inl rfl) (pe_meth0 (pv 1) (cl_Amounts (K := K) E) (m_Amounts_wishes (K := K) E) (ok_Amounts_wishes (K := K) E) (hr.mono (by decide)) (b_Amounts_wishes (K := K) E) .nil pass0))))), fun cdv A n s H hr => (pe_meth0 (pe_fldK (K := K) rfl (pv 0) rfl) (cl_Order (K := K) E) (m_Order_pairs (K := K) E) (ok_Order_pairs (K := K) E) (hr.mono (by decide)) (b_Order_pairs (K := K) E) .nil pass0), fun cdv A n s H => (pg_name (i := 4) sc_Server_steps.nd rfl (Or.inl rfl)), fun cdv A n s H hr => (pss_cons (ps_asg (pv 4) (pg_tupK (K := K) (n := 2) rfl rfl (pgs_cons (pg_name (i := 5) sc_Server_steps.nd rfl (Or.inl rfl)) (pgs_cons (pg_name (i := 6) sc_Server_steps.nd rfl (Or.inl rfl)) pgs_nil))))
    (pss_cons (ps_set (i := 7) sc_Server_steps.nd rfl (Or.inl rfl) (pe_ifExp (pt_cmpR op_lt (pe_ix (ix_listK (K := K) rfl) (pv 2) (pv 5) (fun _ _ => rfl)) (pe_ix (ix_listK (K := K) rfl) (pv 3) (pv 6) (fun _ _ => rfl)) (nomark _)) (pe_ix (ix_listK (K := K) rfl) (pv 2) (pv 5) (fun _ _ => rfl)) (pe_ix (ix_listK (K := K) rfl) (pv 3) (pv 6) (fun _ _ => rfl))))
    (pss_cons (ps_augS (pv 2) (pv 5) (get_listK (K := K) rfl) (pv 7) ip_sub set_listN)
    (pss_one (ps_augS (pv 3) (pv 6) (get_listK (K := K) rfl) (pv 7) ip_sub set_listN))))), fun cdv A n s H => (pe_tup (pa_cons (pv 4) (pa_cons (pv 7) pa_nil))), fun _ _ => rfl, rfl⟩ (hr.mono (by decide)) hb (pa_cons (pv 1) pa_nil) sc_Server__call__.nd rfl rfl rfl rfl rfl rfl (fun _ => rfl))
      (pss_one (ps_ret (pe_make (mk_Serving E) (ok_Serving__init__ E) (hr.mono (by decide)) rfl (g_Serving E) (b_Serving__init__ E) .nil pass0 (pa_cons (pe_fld (pv 0) rfl) (pa_cons (pv 1) (pa_cons (pv 2) pa_nil)))))))), ?_⟩
    intro D hD
    have h64 := cells64 c hd
    have hlw : L.length = (cells m n c).length := List.Perm.length_eq hw
    have hnd : L.Nodup := (List.Perm.nodup_iff hw).mpr (nodup_cells m n c)
    have sD : Same H (upd H D (.dT [])) := Same.new hD
    obtain ⟨dxa, S0, W0, hpa, _⟩ := id ham
    obtain ⟨dyo, lo, so, hpo, _⟩ := id ho
    refine ⟨_, rfl, p, dx, _, rfl, sD _ _ hp, rfl, _, rfl, rfl, L.length, fun l xs k σ σg H' => ∃ (v3 v4 g4 g5 g6 g7 : Option V) (S W : Addr) (a' b' : Nat → Int) (f : Pr → Int) (ts : List Addr), σ = [some (.ref p), some (.ref am), some (.ref D), v3, v4] ∧ σg = [some (.ref p), some (.ref am), some (.ref S), some (.ref W), g4, g5, g6, g7] ∧ xs = ts.map V.ref ∧ Same H H' ∧ H' l = some (.lst xs) ∧ P2 H' ts L ∧
      IntsAt H' S m a' ∧ IntsAt H' W n b' ∧ DmAt H' D (L.take k) (fun q => .int (f q)) ∧ S ≠ W ∧ l ≠ S ∧ l ≠ W ∧ H S = none ∧ H W = none ∧ serve L a b = ((L.take k).map fun q => (q, f q)) ++ serve (L.drop k) a' b', ?_, ?_⟩
    · rintro l xs hxs k1 σ σg H' hk ⟨v3, v4, g4, g5, g6, g7, S, W, a', b', f, ts, rfl, rfl, rfl, s, ol, q, hS, hW, hDm, nSW, nlS, nlW, hS0, hW0, hsv⟩
      rw [List.length_map] at hxs
      refine ⟨SqL.of ol, fun ek => ?_, fun x hx => ?_⟩
      · rw [List.length_map, hxs] at ek
        subst ek
        rw [List.take_length] at hDm
        rw [List.take_length, List.drop_length] at hsv
        refine ⟨_, rfl, p, _, dx, _, _, rfl, s _ _ hp, cl_Server E, na_Server_held_table E, rfl, _, rfl, _, rfl, fun z dz nz ndz nez => ?_⟩
        have s3 : Same H' (upd (upd H' dz (.own z)) z (.ins (c_Serving K) dz [])) := Same.new0 (Same.new0 (Same.refl _) ndz) (by rw [upd_ne nez.symm]; exact nz)
        obtain ⟨dt, g, hpt, _⟩ := id ht
        refine ⟨z, dz, t, am, D, m, n, c, L, f, rfl, upd_same, (ne_of_none (s _ _ hpt) nz).symm, (ht.same s).same s3, hd, s3 _ _ hDm, fun r hr => (List.Perm.mem_iff hw).mpr hr, fun H'' sx hv => ⟨rfl, ?_⟩⟩
        refine k H'' z f (s.trans (Same.made nz ndz sx)) (s.free nz) hv ?_
        rw [hsv]
        show _ ++ serve [] a' b' = _
        rw [show serve [] a' b' = [] from rfl, List.append_nil]
      · obtain ⟨t', et, rfl⟩ := map_ref_at hx
        obtain ⟨r, er, hr'⟩ := q.of et
        obtain ⟨i, j⟩ := r
        obtain ⟨w1, w2, w3⟩ := hw.mem (List.mem_of_getElem? er)
        have hkl : k1 < L.length := (List.getElem?_eq_some_iff.mp er).1
        have hdr : L.drop k1 = (i, j) :: L.drop (k1 + 1) := by
          rw [List.drop_eq_getElem_cons hkl]
          congr 1
          have := List.getElem?_eq_getElem hkl
          rw [er] at this
          exact (Option.some.inj this).symm
        rw [hdr] at hsv
        have hsv' : serve L a b = ((L.take k1).map fun q => (q, f q)) ++ ((i, j), lesser (a' i) (b' j)) :: serve (L.drop (k1 + 1)) (fset a' i (a' i - lesser (a' i) (b' j))) (fset b' j (b' j - lesser (a' i) (b' j))) := hsv
        have hnew : (i, j) ∉ L.take k1 := nodup_take_not_mem hnd er
        refine ⟨_, rfl, t', _, rfl, t2_at hr', rfl, _, _, rfl, _, _, rfl, rfl, ?_⟩
        refine ⟨_, rfl, _, rfl, S, _, _, _, rfl, rfl, SqL.of hS, atR _ w1, _, rfl, _, rfl, W, _, _, _, rfl, rfl, SqL.of hW, atR _ w2, _, _, rfl, rfl, _, rfl, ?_⟩
        obtain ⟨v, hv, hc⟩ : ∃ v, v = lesser (a' i) (b' j) ∧ ((decide (a' i < b' j) = true ∧ a' i = v) ∨ (decide (a' i < b' j) = false ∧ b' j = v)) := by
          refine ⟨_, rfl, ?_⟩
          unfold lesser
          by_cases h : a' i < b' j
          · exact .inl ⟨decide_eq_true h, by rw [if_neg (by omega)]⟩
          · refine .inr ⟨decide_eq_false h, ?_⟩
            split <;> omega
        rw [← hv] at hsv'
        have hTD : ∀ {u : Addr} {xs : List V}, H' u = some (.tup xs) → u ≠ D := fun e => ne_of e hDm (by intro z; cases z)
        refine tif2 (v := v) (fun e r => ⟨_, rfl, _, rfl, S, _, _, _, rfl, rfl, SqL.of hS, atR _ w1, ?_⟩) (fun e r => ⟨_, rfl, _, rfl, W, _, _, _, rfl, rfl, SqL.of hW, atR _ w2, ?_⟩) ?_
        · rcases hc with ⟨e1, e2⟩ | ⟨e1, e2⟩
          · rw [e2]; exact r
          · rw [e] at e1; cases e1
        · rcases hc with ⟨e1, e2⟩ | ⟨e1, e2⟩
          · rw [e] at e1; cases e1
          · rw [e2]; exact r
        have hSr : (rg m fun i => V.int (a' i))[i]? = some (.int (a' i)) := rg_at _ w1
        have hWr : (rg n fun i => V.int (b' i))[j]? = some (.int (b' j)) := rg_at _ w2
        refine ⟨_, rfl, _, rfl, S, _, i, _, rfl, rfl, SqL.of hS, hSr, _, rfl, _, _, rfl, rfl, S, _, i, rfl, rfl, hS, (by rw [rg_len]; exact w1), ?_⟩
        refine ⟨_, rfl, _, rfl, W, _, j, _, rfl, rfl, SqL.of ((upd_ne nSW.symm).trans hW), hWr, _, rfl, _, _, rfl, rfl, W, _, j, rfl, rfl, (upd_ne nSW.symm).trans hW, (by rw [rg_len]; exact w2), ?_⟩
        refine ⟨_, rfl, _, rfl, by show 2 ≤ sizeLine; decide, fun T hT => ?_⟩
        rw [rg_set, rg_set] at hT ⊢
        obtain ⟨H1, e1⟩ : ∃ H1, upd (upd H' S (.lst (rg m fun k => if k = i then .int (a' i - v) else .int (a' k)))) W (.lst (rg n fun k => if k = j then .int (b' j - v) else .int (b' k))) = H1 := ⟨_, rfl⟩
        have nTS : T ≠ S := fun e => by rw [e, upd_ne nSW, upd_same] at hT; cases hT
        have nTW : T ≠ W := fun e => by rw [e, upd_same] at hT; cases hT
        have hT' : H' T = none := by rw [upd_ne nTW, upd_ne nTS] at hT; exact hT
        have hS1 : IntsAt H1 S m (fset a' i (a' i - v)) := by
          show H1 S = _
          rw [← e1, upd_ne nSW, upd_same]
          congr 2
          exact rg_congr fun k _ => by unfold fset; split <;> rfl
        have hW1 : IntsAt H1 W n (fset b' j (b' j - v)) := by
          show H1 W = _
          rw [← e1, upd_same]
          congr 2
          exact rg_congr fun k _ => by unfold fset; split <;> rfl
        have oth : ∀ {x : Addr}, x ≠ S → x ≠ W → H1 x = H' x := fun h1 h2 => by rw [← e1, upd_ne h2, upd_ne h1]
        have s1 : Same H H1 := by rw [← e1]; exact Same.up (Same.up s hS0) hW0
        have tupk : ∀ {u : Addr} {xs : List V}, H' u = some (.tup xs) → H1 u = some (.tup xs) := fun e => (oth (ne_of e hS (by intro z; cases z)) (ne_of e hW (by intro z; cases z))).trans e
        have nDS : D ≠ S := ne_of hDm hS (by intro z; cases z)
        have nDW : D ≠ W := ne_of hDm hW (by intro z; cases z)
        have nDT : D ≠ T := ne_of_none hDm hT'
        have hD1 : H1 D = some (.dT (dm (L.take k1) fun q => .int (f q))) := (oth nDS nDW).trans hDm
        rw [e1]
        refine ⟨T, t', D, .int v, _, ky (i, j), rfl, upd_same, rfl, by show 3 < 5; decide, by show 4 < 5; decide, by decide, (upd_ne nDT).trans hD1, (upd_ne (ne_of_none hr' hT')).trans (tupk hr'), ?_, ?_⟩
        · rw [dm_len, List.length_take]
          exact Nat.lt_of_le_of_lt (Nat.le_trans (Nat.min_le_right _ _) (by rw [hlw]; exact h64)) (by decide)
        · have s2 : Same H (upd (upd H1 T (.tup [.ref t', .int v])) D (.dT (putK (dm (L.take k1) fun q => .int (f q)) (ky (i, j)) (.int v)))) := Same.up (Same.up s1 (s.free hT')) hD
          have fin : ∀ {x : Addr} {o : HO}, H1 x = some o → x ≠ D → x ≠ T → upd (upd H1 T (.tup [.ref t', .int v])) D (.dT (putK (dm (L.take k1) fun q => .int (f q)) (ky (i, j)) (.int v))) x = some o := fun e h1 h2 => by rw [upd_ne h1, upd_ne h2]; exact e
          refine ⟨_, _, some (.ref t'), some (.int (i : Int)), some (.int (j : Int)), some (.int v), S, W, fset a' i (a' i - v), fset b' j (b' j - v), fun r => if r = (i, j) then v else f r, ts, rfl, rfl, rfl, s2, ?_, ?_, ?_, ?_, ?_, nSW, nlS, nlW, hS0, hW0, ?_⟩
          · exact fin ((oth nlS nlW).trans ol) (ne_of ol hDm (by intro z; cases z)) (ne_of_none ol hT')
          · exact q.map fun u x y e => fin (tupk e) (ne_of e hDm (by intro z; cases z)) (ne_of_none e hT')
          · exact fin hS1 nDS.symm nTS.symm
          · exact fin hW1 nDW.symm nTW.symm
          · show upd _ _ _ _ = _
            rw [upd_same, take_snoc er, dm_put_any hnew]
            congr 2
            exact dm_congr fun r _ => by
              show (if r = (i, j) then V.int v else .int (f r)) = V.int (if r = (i, j) then v else f r)
              split <;> rfl
          · rw [hsv', take_snoc er, List.map_append, hv]
            rw [List.append_assoc]
            congr 1
            · exact List.map_congr_left fun r hr => by
                show (r, f r) = (r, if r = (i, j) then _ else f r)
                rw [if_neg (show ¬ r = (i, j) from fun e => hnew (by rw [← e]; exact hr))]
            · show _ = [((i, j), if (i, j) = (i, j) then lesser (a' i) (b' j) else f (i, j))] ++ _
              rw [if_pos rfl]
              rfl
    · refine ⟨_, rfl, p, _, dx, _, _, rfl, sD _ _ hp, cl_Server E, na_Server_held_table E, rfl, _, rfl, t, am, m, n, a, b, c, rfl, ham.same sD, ht.same sD, hd, ?_⟩
      refine ⟨_, rfl, am, dxa, _, rfl, sD _ _ hpa, rfl, am, m, n, a, b, rfl, ham.same sD, fun H2 S s2 hS iS => ?_⟩
      have s2' := sD.trans s2
      refine ⟨_, rfl, am, dxa, _, rfl, s2' _ _ hpa, rfl, am, m, n, a, b, rfl, ham.same s2', fun H3 W s3 hW iW => ?_⟩
      have s3' := s2'.trans s3
      refine ⟨_, rfl, p, _, dx, _, _, rfl, s3' _ _ hp, cl_Server E, na_Server_held_order E, rfl, o, dyo, _, rfl, s3' _ _ hpo, rfl, o, L, rfl, ho.same s3', fun H4 l s4 hl ⟨ts, ol, pts⟩ => ?_⟩
      have s4' := s3'.trans s4
      refine ⟨l, _, rfl, by rw [List.length_map, pts.1], SqL.of ol, none, none, none, none, none, none, S, W, a, b, fun _ => 0, ts, rfl, rfl, rfl, s4', ol, pts, s4 _ _ (s3 _ _ iS), s4 _ _ iW, ?_, ne_of_none iS hW, (ne_of_none (s3 _ _ iS) hl).symm, (ne_of_none iW hl).symm, sD.free hS, s2'.free hW, rfl⟩
      exact s4 _ _ (s3 _ _ (s2 _ _ upd_same))
end
end K78
end
section
set_option Elab.async false
set_option linter.all false
set_option maxRecDepth 100000
set_option maxHeartbeats 4000000
namespace K78
open PySem PySem.Spec PyProof.Rows L2 He
section
variable {P : Program} {w : World} {K : PySem.W.Frag} {mg : Str → Option Value} {base : Heap}
/-- dearer than across -/
def dearB (c : Nat → Nat → Option Int) (i j r s : Nat) : Bool := match c r s with
  | none => true
  | some _ => decide (vl c (i, j) + vl c (r, s) > vl c (i, s) + vl c (r, j))
def sp_is_dearer (K : PySem.W.Frag) : Sp := fun vs H Q _ => ∃ (g t u : Addr) (m n i j r s : Nat) (c : Nat → Nat → Option Int), vs = [.ref g, .ref t, .ref u] ∧ GridAt H g m n c ∧ T2 H t i j ∧ T2 H u r s ∧ i < m ∧ j < n ∧ r < m ∧ s < n ∧
  (c i j).isSome = true ∧ (c i s).isSome = true ∧ (c r j).isSome = true ∧ Q (.bl (dearB c i j r s)) H
theorem ok_is_dearer (E : TX K mg) : FnOk P w K mg base CX0 1 (a_is_dearer K) (fdOf K (a_is_dearer K)) P_is_dearer (sp_is_dearer K) := by
  refine (f_is_dearer E).ok sc_is_dearer (fun vs H Q E' h => ?_) (fun cdv A outer s H vs Q E' hr h => ?_)
  · obtain ⟨_, _, _, _, _, _, _, _, _, _, rfl, _⟩ := h; rfl
  · obtain ⟨g, t, u, m, n, i, j, r, s', c, rfl, ⟨ra, hg⟩, ht, hu, hi, hj, hr', hs, c1, c2, c3, k⟩ := h
    refine ⟨_, PSs.nox (pss_cons (ps_asg (pv 1) (pg_tup rfl (pgs_cons (pg_name (i := 3) sc_is_dearer.nd rfl (Or.inl rfl)) (pgs_cons (pg_name (i := 4) sc_is_dearer.nd rfl (Or.inl rfl)) pgs_nil))))
    (pss_cons (ps_asg (pv 2) (pg_tup rfl (pgs_cons (pg_name (i := 5) sc_is_dearer.nd rfl (Or.inl rfl)) (pgs_cons (pg_name (i := 6) sc_is_dearer.nd rfl (Or.inl rfl)) pgs_nil))))
    (pss_cons (ps_if (pt_cmpR op_isN (pe_ix ix_list (pe_ix ix_list (pv 0) (pv 5) (fun _ _ => rfl)) (pv 6) (fun _ _ => rfl)) pe_non (nomark _)) (pss_one (ps_ret pe_bl)) pss_nil)
    (pss_one (ps_ret (pe_cmpR op_gt (pe_op op_add (pe_ix ix_list (pe_ix ix_list (pv 0) (pv 3) (fun _ _ => rfl)) (pv 4) (fun _ _ => rfl)) (pe_ix ix_list (pe_ix ix_list (pv 0) (pv 5) (fun _ _ => rfl)) (pv 6) (fun _ _ => rfl))) (pe_op op_add (pe_ix ix_list (pe_ix ix_list (pv 0) (pv 3) (fun _ _ => rfl)) (pv 6) (fun _ _ => rfl)) (pe_ix ix_list (pe_ix ix_list (pv 0) (pv 5) (fun _ _ => rfl)) (pv 4) (fun _ _ => rfl))) (nomark _))))))), ?_⟩
    refine ⟨_, rfl, t, _, rfl, t2_at ht, rfl, _, _, rfl, _, _, rfl, rfl, ?_⟩
    refine ⟨_, rfl, u, _, rfl, t2_at hu, rfl, _, _, rfl, _, _, rfl, rfl, ?_⟩
    have gv : ∀ {x y : Nat}, x < m → y < n → atI (rg n fun y => ov (c x y)) (y : Int) = some (ov (c x y)) := fun {x y} hx hy => atR (fun y => ov (c x y)) hy
    refine ⟨_, rfl, _, rfl, g, _, _, _, rfl, rfl, SqL.of hg.o, atR _ hr', _, rfl, _, _, _, _, rfl, rfl, SqL.of (hg.r r hr'), gv hr' hs, rfl, _, rfl, ?_⟩
    unfold dearB at k
    cases e : c r s' with
    | none => rw [e] at k; exact k
    | some z =>
      rw [e] at k
      have f1 := ov_vl (q := (i, j)) c1
      have f2 := ov_vl (q := (i, s')) c2
      have f3 := ov_vl (q := (r, j)) c3
      have f4 := ov_vl (c := c) (q := (r, s')) (by show (c r s').isSome = true; rw [e]; rfl)
      refine ⟨_, rfl, _, rfl, g, _, _, _, rfl, rfl, SqL.of hg.o, atR _ hi, _, rfl, _, _, _, _, rfl, rfl, SqL.of (hg.r i hi), (gv hi hj).trans (congrArg some f1), ?_⟩
      refine ⟨_, rfl, _, rfl, g, _, _, _, rfl, rfl, SqL.of hg.o, atR _ hr', _, rfl, _, _, _, _, rfl, rfl, SqL.of (hg.r r hr'), (gv hr' hs).trans (congrArg some f4), _, _, rfl, rfl, ?_⟩
      refine ⟨_, rfl, _, rfl, g, _, _, _, rfl, rfl, SqL.of hg.o, atR _ hi, _, rfl, _, _, _, _, rfl, rfl, SqL.of (hg.r i hi), (gv hi hs).trans (congrArg some f2), ?_⟩
      exact ⟨_, rfl, _, rfl, g, _, _, _, rfl, rfl, SqL.of hg.o, atR _ hr', _, rfl, _, _, _, _, rfl, rfl, SqL.of (hg.r r hr'), (gv hr' hj).trans (congrArg some f3), _, _, rfl, rfl, _, _, rfl, rfl, k⟩
/-- nothing in B bars the pair -/
def NoBar (m n : Nat) (c : Nat → Nat → Option Int) (z : Str) (B : List Pr) (i j : Nat) : Prop :=
  (∀ r s, r < m → s < n → r ≠ i → s ≠ j → (r, j) ∈ B → (i, s) ∈ B → dearB c i j r s = false) ∧
  (cA z = true → ∀ r, r < m → r ≠ i → (r, j) ∈ B → vl c (i, j) ≤ vl c (r, j)) ∧ (cB z = true → ∀ s, s < n → s ≠ j → (i, s) ∈ B → vl c (i, j) ≤ vl c (i, s))
/-- the numbers below m that pass -/
def nums (m : Nat) (p : Nat → Bool) : List V := ((List.range m).filter p).map fun (r : Nat) => V.int (r : Int)
theorem nums_succ (m : Nat) (p : Nat → Bool) : nums (m + 1) p = nums m p ++ if p m then [.int (m : Int)] else [] := by
  unfold nums
  rw [List.range_succ, List.filter_append, List.map_append]
  congr 1
  by_cases h : p m = true
  · rw [List.filter_cons_of_pos h, if_pos h]; rfl
  · rw [List.filter_cons_of_neg h, if_neg h]; rfl
theorem nums_len (m : Nat) (p : Nat → Bool) : (nums m p).length ≤ m := by
  unfold nums
  rw [List.length_map]
  exact Nat.le_trans (List.length_filter_le _ _) (Nat.le_of_eq List.length_range)
theorem nums_of {m : Nat} {p : Nat → Bool} {i : Nat} {v : V} (h : (nums m p)[i]? = some v) : ∃ r, r < m ∧ p r = true ∧ v = .int (r : Int) := by
  have := List.mem_of_getElem? h
  unfold nums at this
  obtain ⟨r, hr, e⟩ := List.mem_map.mp this
  obtain ⟨h1, h2⟩ := List.mem_filter.mp hr
  exact ⟨r, List.mem_range.mp h1, h2, e.symm⟩
def sp_bars (K : PySem.W.Frag) : SpG0 := fun vs H Q => ∃ (t d u : Addr) (z : Str) (m n i j : Nat) (c : Nat → Nat → Option Int) (B : List Pr) (f : Pr → V), vs = [.ref t, .ref d, .ref u, .str z] ∧ TabAt K H t m n c ∧ dim m n ∧ DmAt H d B f ∧ T2 H u i j ∧ i < m ∧ j < n ∧ (c i j).isSome = true ∧
  (∀ q ∈ B, (c q.1 q.2).isSome = true) ∧ NoBar m n c z B i j ∧ ∀ H', Same H H' → Q H'
theorem gok_bars (E : TX K mg) : GFn0 P w K mg base 2 (a_bars K) (fdOf K (a_bars K)) P_bars (sp_bars K) := by
  refine gfn0_of (f_bars E) sc_bars (fun vs H Q h => ?_) (fun cdv A outer s H vs Q hr h => ?_)
  · obtain ⟨_, _, _, _, _, _, _, _, _, _, _, rfl, _⟩ := h; rfl
  · obtain ⟨t, d, u, z, m, n, i, j, c, B, f, rfl, ht, hd, hDm, hu, hi, hj, hc, hB, ⟨n1, n2, n3⟩, k⟩ := h
    refine ⟨_, (pss_cons (ps_set (i := 4) sc_bars.nd rfl (Or.inl rfl) (pe_meth0 (pv 0) (cl_Table (K := K) E) (m_Table_rows (K := K) E) (ok_Table_rows (K := K) E) (hr.mono (by decide)) (b_Table_rows (K := K) E) .nil pass0))
    (pss_cons (ps_asg (pv 2) (pg_tup rfl (pgs_cons (pg_name (i := 5) sc_bars.nd rfl (Or.inr rfl)) (pgs_cons (pg_name (i := 6) sc_bars.nd rfl (Or.inr rfl)) pgs_nil))))
    (pss_cons (ps_setLc (i := 7) (own := [("r", 8)]) rfl sc_bars.nd rfl rfl (sw_true rfl rfl rfl (by decide +kernel)) (pi_range1 rfl (fr_range (K := K) E) (pa_cons (pe_callB call_len_seq (by rfl) (fr_len (K := K) E) boot_len (pa_cons (pv 4) pa_nil)) pa_nil)) (blkOk_by (own := [("r", 8)]) (N := N_bars) (sc := defScope s_bars) (by decide +kernel)) (fun _ _ _ _ _ => (pg_name (i := 8) sc_bars.nd rfl (Or.inl rfl))) (fun _ _ _ _ _ => (pts_one (PW.pt (pw_and (pt_cmpR op_ne (pv 8) (pv 5) (nomark _)) (pw_and1 (pt_cmp (pc_din (hu_of hr) (pe_tup (pa_cons (pv 8) (pa_cons (pv 6) pa_nil))) (pv 1)))))))) (fun _ _ _ _ _ => (pv 8)))
    (pss_cons (ps_setLc (i := 9) (own := [("s", 10)]) rfl sc_bars.nd rfl rfl (sw_true rfl rfl rfl (by decide +kernel)) (pi_range1 rfl (fr_range (K := K) E) (pa_cons (pe_callB call_len_seq (by rfl) (fr_len (K := K) E) boot_len (pa_cons (pe_ix ix_list (pv 4) pe_int (fun _ _ => rfl)) pa_nil)) pa_nil)) (blkOk_by (own := [("s", 10)]) (N := N_bars) (sc := defScope s_bars) (by decide +kernel)) (fun _ _ _ _ _ => (pg_name (i := 10) sc_bars.nd rfl (Or.inl rfl))) (fun _ _ _ _ _ => (pts_one (PW.pt (pw_and (pt_cmpR op_ne (pv 10) (pv 6) (nomark _)) (pw_and1 (pt_cmp (pc_din (hu_of hr) (pe_tup (pa_cons (pv 5) (pa_cons (pv 10) pa_nil))) (pv 1)))))))) (fun _ _ _ _ _ => (pv 10)))
    (pss_cons (ps_for PassesOwn.never rfl (pi_list (pv 7)) (pg_name (i := 8) sc_bars.nd rfl (Or.inl rfl))
    (pss_one (ps_for PassesOwn.never rfl (pi_list (pv 9)) (pg_name (i := 10) sc_bars.nd rfl (Or.inl rfl))
    (pss_one (ps_if (pt_val (pe_call (ok_is_dearer (K := K) E) (hr.mono (by decide)) rfl (g_is_dearer (K := K) E) (k_is_dearer (K := K) E) (b_is_dearer (K := K) E) .nil pass0 (pa_cons (pv 4) (pa_cons (pv 2) (pa_cons (pe_tup (pa_cons (pv 8) (pa_cons (pv 10) pa_nil))) pa_nil))))) (pss_one ps_never) pss_nil)))))
    (pss_cons (ps_if (pt_val (pe_call (ok_counts_columns (K := K) E) (hr.mono (by decide)) rfl (g_counts_columns (K := K) E) (k_counts_columns (K := K) E) (b_counts_columns (K := K) E) .nil pass0 (pa_cons (pv 3) pa_nil))) (pss_one (ps_for PassesOwn.never rfl (pi_list (pv 7)) (pg_name (i := 8) sc_bars.nd rfl (Or.inl rfl))
    (pss_one (ps_if (pt_cmpR op_gt (pe_ix ix_list (pe_ix ix_list (pv 4) (pv 5) (fun _ _ => rfl)) (pv 6) (fun _ _ => rfl)) (pe_ix ix_list (pe_ix ix_list (pv 4) (pv 8) (fun _ _ => rfl)) (pv 6) (fun _ _ => rfl)) (nomark _)) (pss_one ps_never) pss_nil)))) pss_nil)
    (pss_one (ps_if (pt_val (pe_call (ok_counts_rows (K := K) E) (hr.mono (by decide)) rfl (g_counts_rows (K := K) E) (k_counts_rows (K := K) E) (b_counts_rows (K := K) E) .nil pass0 (pa_cons (pv 3) pa_nil))) (pss_one (ps_for PassesOwn.never rfl (pi_list (pv 9)) (pg_name (i := 10) sc_bars.nd rfl (Or.inl rfl))
    (pss_one (ps_if (pt_cmpR op_gt (pe_ix ix_list (pe_ix ix_list (pv 4) (pv 5) (fun _ _ => rfl)) (pv 6) (fun _ _ => rfl)) (pe_ix ix_list (pe_ix ix_list (pv 4) (pv 5) (fun _ _ => rfl)) (pv 10) (fun _ _ => rfl)) (nomark _)) (pss_one ps_never) pss_nil)))) pss_nil)))))))), ?_⟩
    obtain ⟨dx, g0, hp, hg0⟩ := id ht
    refine ⟨_, rfl, t, dx, _, rfl, hp, rfl, t, m, n, c, rfl, ht, hd.2.1, fun H1 g s1 hgn ⟨r, hg⟩ => ?_⟩
    refine ⟨_, rfl, u, _, rfl, t2_at (s1 _ _ hu), rfl, _, _, rfl, _, _, rfl, rfl, ?_⟩
    have hDm1 := s1 _ _ hDm
    have hu1 := s1 _ _ hu
    -- stocks
    refine ⟨_, rfl, g, _, rfl, .inl (SqL.of hg.o), ?_⟩
    rw [rg_len]
    have hmb := hd.2.1
    have hnb := hd.2.2.2
    refine ⟨_, rfl, by omega, by omega, fun D1 hD1 => ?_⟩
    refine walk_go (walk_rg (n := m)) (fun k H' => Same H1 H' ∧ H' D1 = some (.lst (nums k fun r => decide (r ≠ i) && decide ((r, j) ∈ B)))) ⟨Same.new hD1, upd_same⟩ (fun _ _ _ _ => trivial) ?_ ?_
    · rintro k0 x H' H'' hk ⟨s, o⟩ ⟨rfl, rfl⟩
      rw [nums_succ]
      refine ⟨rfl, _, rfl, _, rfl, rfl, _, rfl, ?_⟩
      refine ite2 (fun h => ?_) (fun h => ?_)
      · have h1 : k0 ≠ i := fun e => by rw [e] at h; simp at h
        refine ⟨_, rfl, _, rfl, by show 2 ≤ sizeLine; decide, fun T hT => ?_⟩
        have s2 := Same.new hT (o := .tup [.int (k0 : Int), .int (j : Int)])
        refine ⟨_, rfl, d, _, rfl, dm_get (q := (k0, j)) (s2 _ _ (s _ _ hDm1)) upd_same, _, rfl, ?_⟩
        have o2 := s2 _ _ o
        by_cases hB2 : (k0, j) ∈ B
        · rw [if_pos hB2, decide_eq_true h1, decide_eq_true hB2]
          refine ⟨_, rfl, _, o2, ?_, Same.up (s.trans s2) hD1, upd_same⟩
          exact Nat.lt_of_le_of_lt (nums_len _ _) (Nat.lt_of_lt_of_le hk (Nat.le_trans hmb (by decide)))
        · rw [if_neg hB2, decide_eq_true h1, decide_eq_false hB2]
          exact ⟨s.trans s2, by rw [o2]; simp⟩
      · have h1 : k0 = i := by
          refine Classical.byContradiction fun e => h ?_
          simp only [Bool.not_eq_true', decide_eq_false_iff_not]
          intro z
          injection z with z
          exact e (by omega)
        subst h1
        refine ⟨s, ?_⟩
        rw [o]
        simp
    rintro H2 ⟨s2, o1⟩
    -- wishes
    have ix0 : atI (rg m fun i => V.ref (r i)) 0 = some (V.ref (r 0)) := atR (i := 0) _ (by omega)
    refine ⟨_, rfl, g, _, _, _, rfl, rfl, SqL.of (s2 _ _ hg.o), ix0, _, _, rfl, .inl (SqL.of (s2 _ _ (hg.r 0 (by omega)))), ?_⟩
    rw [rg_len]
    refine ⟨_, rfl, by omega, by omega, fun D2 hD2 => ?_⟩
    refine walk_go (walk_rg (n := n)) (fun k H' => Same H2 H' ∧ H' D2 = some (.lst (nums k fun r => decide (r ≠ j) && decide ((i, r) ∈ B)))) ⟨Same.new hD2, upd_same⟩ (fun _ _ _ _ => trivial) ?_ ?_
    · rintro k0 x H' H'' hk ⟨s, o⟩ ⟨rfl, rfl⟩
      rw [nums_succ]
      refine ⟨rfl, _, rfl, _, rfl, rfl, _, rfl, ?_⟩
      refine ite2 (fun h => ?_) (fun h => ?_)
      · have h1 : k0 ≠ j := fun e => by rw [e] at h; simp at h
        refine ⟨_, rfl, _, rfl, by show 2 ≤ sizeLine; decide, fun T hT => ?_⟩
        have s3 := Same.new hT (o := .tup [.int (i : Int), .int (k0 : Int)])
        refine ⟨_, rfl, d, _, rfl, dm_get (q := (i, k0)) (s3 _ _ (s _ _ (s2 _ _ hDm1))) upd_same, _, rfl, ?_⟩
        have o2 := s3 _ _ o
        by_cases hB2 : (i, k0) ∈ B
        · rw [if_pos hB2, decide_eq_true h1, decide_eq_true hB2]
          refine ⟨_, rfl, _, o2, ?_, Same.up (s.trans s3) hD2, upd_same⟩
          exact Nat.lt_of_le_of_lt (nums_len _ _) (Nat.lt_of_lt_of_le hk (Nat.le_trans hnb (by decide)))
        · rw [if_neg hB2, decide_eq_true h1, decide_eq_false hB2]
          exact ⟨s.trans s3, by rw [o2]; simp⟩
      · have h1 : k0 = j := by
          refine Classical.byContradiction fun e => h ?_
          simp only [Bool.not_eq_true', decide_eq_false_iff_not]
          intro z
          injection z with z
          exact e (by omega)
        subst h1
        refine ⟨s, ?_⟩
        rw [o]
        simp
    rintro H3 ⟨s3, o2⟩
    have s13 := s2.trans s3
    have hg3 : RowsAt H3 g m n (fun i j => ov (c i j)) r := hg.same s13
    have o13 := s3 _ _ o1
    -- for r in stocks: for s in wishes
    refine ⟨_, rfl, D1, rfl, ⟨_, SqL.of o13⟩, for_list (fun k σ H' => ∃ v8 v10, σ = [some (.ref t), some (.ref d), some (.ref u), some (.str z), some (.ref g), some (.int (i : Int)), some (.int (j : Int)), some (.ref D1), v8, some (.ref D2), v10] ∧ Same H3 H') ⟨none, none, rfl, Same.refl _⟩
      (fun k σ H' _ ⟨_, _, _, s⟩ => SqL.of (s _ _ o13)) ?_ ?_⟩
    · rintro k0 x σ H' hx ⟨v8, v10, rfl, s⟩
      obtain ⟨a1, ha1, hpa, rfl⟩ := nums_of hx
      rw [Bool.and_eq_true, decide_eq_true_eq, decide_eq_true_eq] at hpa
      refine ⟨_, rfl, D2, rfl, ⟨_, SqL.of (s _ _ o2)⟩, for_list (fun k σ H' => ∃ v10, σ = [some (.ref t), some (.ref d), some (.ref u), some (.str z), some (.ref g), some (.int (i : Int)), some (.int (j : Int)), some (.ref D1), some (.int (a1 : Int)), some (.ref D2), v10] ∧ Same H3 H') ⟨v10, rfl, s⟩
        (fun k σ H' _ ⟨_, _, s⟩ => SqL.of (s _ _ o2)) ?_ ?_⟩
      · rintro k1 x σ H' hx ⟨v10, rfl, s⟩
        obtain ⟨b1, hb1, hpb, rfl⟩ := nums_of hx
        rw [Bool.and_eq_true, decide_eq_true_eq, decide_eq_true_eq] at hpb
        refine ⟨_, rfl, _, rfl, _, rfl, _, rfl, by show 2 ≤ sizeLine; decide, fun T hT => ?_⟩
        have sT := Same.new hT (o := .tup [.int (a1 : Int), .int (b1 : Int)])
        refine ⟨g, u, T, m, n, i, j, a1, b1, c, rfl, ⟨r, (hg3.same s).same sT⟩, sT _ _ (s _ _ (s13 _ _ hu1)), upd_same, hi, hj, ha1, hb1, hc, hB _ hpb.2, hB _ hpa.2, _, rfl, ?_⟩
        rw [n1 a1 b1 ha1 hb1 hpa.1 hpb.1 hpa.2 hpb.2]
        exact ⟨_, rfl, s.trans sT⟩
      · rintro σ H' ⟨v10, rfl, s⟩
        exact ⟨_, _, rfl, s⟩
    · rintro σ H' ⟨v8, v10, rfl, s⟩
      refine ⟨_, rfl, z, rfl, _, rfl, ?_⟩
      have gv : ∀ {H' : Hp} {x y : Nat}, Same H3 H' → x < m → y < n → (c x y).isSome = true → SqL K H' g (rg m fun i => V.ref (r i)) ∧ atI (rg m fun i => V.ref (r i)) (x : Int) = some (.ref (r x)) ∧ SqL K H' (r x) (rg n fun y => ov (c x y)) ∧ atI (rg n fun y => ov (c x y)) (y : Int) = some (.int (vl c (x, y))) := fun {H' x y} s hx hy hc =>
        ⟨SqL.of (s _ _ hg3.o), atR _ hx, SqL.of (s _ _ (hg3.r x hx)), (atR (fun y => ov (c x y)) hy).trans (congrArg some (ov_vl (q := (x, y)) hc))⟩
      refine ifs_go (fun σ H' => ∃ v8 v10, σ = [some (.ref t), some (.ref d), some (.ref u), some (.str z), some (.ref g), some (.int (i : Int)), some (.int (j : Int)), some (.ref D1), v8, some (.ref D2), v10] ∧ Same H3 H') (fun hA rest => ?_) (fun hA rest => rest _ _ ⟨_, _, rfl, s⟩) ?_
      · refine ⟨_, rfl, D1, rfl, ⟨_, SqL.of (s _ _ o13)⟩, for_list (fun k σ H' => ∃ v8 v10, σ = [some (.ref t), some (.ref d), some (.ref u), some (.str z), some (.ref g), some (.int (i : Int)), some (.int (j : Int)), some (.ref D1), v8, some (.ref D2), v10] ∧ Same H3 H') ⟨_, _, rfl, s⟩
          (fun k σ H' _ ⟨_, _, _, s⟩ => SqL.of (s _ _ o13)) ?_ (fun σ H' h => rest σ H' h)⟩
        rintro k0 x σ H' hx ⟨v8, v10, rfl, s⟩
        obtain ⟨a1, ha1, hpa, rfl⟩ := nums_of hx
        rw [Bool.and_eq_true, decide_eq_true_eq, decide_eq_true_eq] at hpa
        obtain ⟨q1, q2, q3, q4⟩ := gv s hi hj hc
        obtain ⟨p1, p2, p3, p4⟩ := gv s ha1 hj (hB _ hpa.2)
        refine ⟨_, rfl, _, rfl, _, _, _, _, rfl, rfl, q1, q2, _, rfl, _, _, _, _, rfl, rfl, q3, q4, ?_⟩
        refine ⟨_, rfl, _, rfl, _, _, _, _, rfl, rfl, p1, p2, _, rfl, _, _, _, _, rfl, rfl, p3, p4, _, _, rfl, rfl, _, rfl, ?_⟩
        have := n2 hA a1 ha1 hpa.1 hpa.2
        rw [decide_eq_false (show ¬ (vl c (i, j) > vl c (a1, j)) by omega)]
        exact ⟨_, _, rfl, s⟩
      · rintro σ H' ⟨v8, v10, rfl, s⟩
        refine ⟨_, rfl, z, rfl, _, rfl, ?_⟩
        have s03 := s1.trans s13
        refine ifs_go (fun σ H' => Same H3 H') (fun hA rest => ?_) (fun hA rest => rest _ _ s) (fun σ H' s => k H' (s03.trans s))
        refine ⟨_, rfl, D2, rfl, ⟨_, SqL.of (s _ _ o2)⟩, for_list (fun k σ H' => ∃ v8 v10, σ = [some (.ref t), some (.ref d), some (.ref u), some (.str z), some (.ref g), some (.int (i : Int)), some (.int (j : Int)), some (.ref D1), v8, some (.ref D2), v10] ∧ Same H3 H') ⟨_, _, rfl, s⟩
          (fun k σ H' _ ⟨_, _, _, s⟩ => SqL.of (s _ _ o2)) ?_ (fun σ H' ⟨_, _, _, s⟩ => rest σ H' s)⟩
        rintro k0 x σ H' hx ⟨v8, v10, rfl, s⟩
        obtain ⟨a1, ha1, hpa, rfl⟩ := nums_of hx
        rw [Bool.and_eq_true, decide_eq_true_eq, decide_eq_true_eq] at hpa
        obtain ⟨q1, q2, q3, q4⟩ := gv s hi hj hc
        obtain ⟨p1, p2, p3, p4⟩ := gv s hi ha1 (hB _ hpa.2)
        refine ⟨_, rfl, _, rfl, _, _, _, _, rfl, rfl, q1, q2, _, rfl, _, _, _, _, rfl, rfl, q3, q4, ?_⟩
        refine ⟨_, rfl, _, rfl, _, _, _, _, rfl, rfl, p1, p2, _, rfl, _, _, _, _, rfl, rfl, p3, p4, _, _, rfl, rfl, _, rfl, ?_⟩
        have := n3 hA a1 ha1 hpa.1 hpa.2
        rw [decide_eq_false (show ¬ (vl c (i, j) > vl c (i, a1)) by omega)]
        exact ⟨_, _, rfl, s⟩
end
end K78
end
section
set_option Elab.async false
set_option linter.all false
set_option maxRecDepth 100000
set_option maxHeartbeats 4000000
namespace K78
open PySem PySem.Spec PyProof.Rows L2 He
section
variable {P : Program} {w : World} {K : PySem.W.Frag} {mg : Str → Option Value} {base : Heap}
def sp_first_bar (K : PySem.W.Frag) : Sp := fun vs H Q _ => ∃ (t d u : Addr) (z : Str) (m n i j : Nat) (c : Nat → Nat → Option Int) (B : List Pr) (f : Pr → V), vs = [.ref t, .ref d, .ref u, .str z] ∧ TabAt K H t m n c ∧ dim m n ∧ DmAt H d B f ∧ T2 H u i j ∧ i < m ∧ j < n ∧ (c i j).isSome = true ∧
  (∀ q ∈ B, (c q.1 q.2).isSome = true) ∧ NoBar m n c z B i j ∧ ∀ H', Same H H' → Q .non H'
theorem ok_first_bar (E : TX K mg) : FnOk P w K mg base CX0 4 (a_first_bar K) (fdOf K (a_first_bar K)) P_first_bar (sp_first_bar K) := by
  refine (f_first_bar E).ok sc_first_bar (fun vs H Q E' h => ?_) (fun cdv A outer s H vs Q E' hr h => ?_)
  · obtain ⟨_, _, _, _, _, _, _, _, _, _, _, rfl, _⟩ := h; rfl
  · obtain ⟨t, d, u, z, m, n, i, j, c, B, f, rfl, ht, hd, hDm, hu, hi, hj, hc, hB, hn, k⟩ := h
    refine ⟨_, PSs.nox (pss_cons (ps_forNone PassesOwn.never rfl (gok_bars (K := K) E) (hr.mono (by decide)) rfl (g_bars (K := K) E) (k_bars (K := K) E) (b_bars (K := K) E) (pa_cons (pv 0) (pa_cons (pv 1) (pa_cons (pv 2) (pa_cons (pv 3) pa_nil)))))
    (pss_one (ps_ret pe_non))), ?_⟩
    exact ⟨_, rfl, _, rfl, _, rfl, _, rfl, t, d, u, z, m, n, i, j, c, B, f, rfl, ht, hd, hDm, hu, hi, hj, hc, hB, hn, fun H' s => k H' s⟩
/-- an order without a fault -/
def NoFault (m n : Nat) (c : Nat → Nat → Option Int) (z : Str) (L : List Pr) : Prop := ∀ k q, L[k]? = some q → NoBar m n c z (L.drop (k + 1)) q.1 q.2
def sp_first_fault (K : PySem.W.Frag) : Sp := fun vs H Q _ => ∃ (t o : Addr) (z : Str) (m n : Nat) (c : Nat → Nat → Option Int) (L : List Pr), vs = [.ref t, .ref o, .str z] ∧ TabAt K H t m n c ∧ OrdAt K H o L ∧ dim m n ∧ Whole m n c L ∧ isK z ∧ NoFault m n c z L ∧ ∀ H', Same H H' → Q .non H'
theorem ok_first_fault (E : TX K mg) : FnOk P w K mg base CX0 6 (a_first_fault K) (fdOf K (a_first_fault K)) P_first_fault (sp_first_fault K) := by
  refine (f_first_fault E).ok sc_first_fault (fun vs H Q E' h => ?_) (fun cdv A outer s H vs Q E' hr h => ?_)
  · obtain ⟨_, _, _, _, _, _, _, rfl, _⟩ := h; rfl
  · obtain ⟨t, o, z, m, n, c, L, rfl, ht, ho, hd, hw, hz, hn, k⟩ := h
    refine ⟨_, PSs.nox (pss_cons (ps_expr (pe_call (ok_check_order (K := K) E) (hr.mono (by decide)) rfl (g_check_order (K := K) E) (k_check_order (K := K) E) (b_check_order (K := K) E) .nil pass0 (pa_cons (pv 0) (pa_cons (pv 1) pa_nil))))
    (pss_cons (ps_expr (pe_call (ok_check_kind (K := K) E) (hr.mono (by decide)) rfl (g_check_kind (K := K) E) (k_check_kind (K := K) E) (b_check_kind (K := K) E) .nil pass0 (pa_cons (pv 2) pa_nil)))
    (pss_cons (ps_setDcT (i := 3) (own := [("pair", 4)]) (hu_of hr) rfl sc_first_fault.nd rfl rfl (sw_trueD rfl rfl rfl (by decide +kernel)) (pi_list (pe_meth0 (pv 1) (cl_Order (K := K) E) (m_Order_pairs (K := K) E) (ok_Order_pairs (K := K) E) (hr.mono (by decide)) (b_Order_pairs (K := K) E) .nil pass0)) (blkOk_by (own := [("pair", 4)]) (N := N_first_fault) (sc := defScope s_first_fault) (by decide +kernel)) (fun _ _ _ _ _ => (pg_name (i := 4) sc_first_fault.nd rfl (Or.inl rfl))) (fun _ _ _ _ _ => (pv 4)) (fun _ _ _ _ _ => pe_bl))
    (pss_cons (ps_for PassesOwn.never rfl (pi_list (pe_meth0 (pv 1) (cl_Order (K := K) E) (m_Order_pairs (K := K) E) (ok_Order_pairs (K := K) E) (hr.mono (by decide)) (b_Order_pairs (K := K) E) .nil pass0)) (pg_name (i := 4) sc_first_fault.nd rfl (Or.inl rfl))
    (pss_cons (ps_delT (hu_of hr) (pv 3) (pv 4))
    (pss_one (ps_ifW (ptw_cmp op_notN (pew_named (i := 5) sc_first_fault.nd rfl (Or.inl rfl) (pew_of (pe_call (ok_first_bar (K := K) E) (hr.mono (by decide)) rfl (g_first_bar (K := K) E) (k_first_bar (K := K) E) (b_first_bar (K := K) E) .nil pass0 (pa_cons (pv 0) (pa_cons (pv 3) (pa_cons (pv 4) (pa_cons (pv 2) pa_nil))))))) pe_non (nomark _)) (pss_one (ps_ret (pv 5))) pss_nil))))
    (pss_one (ps_ret pe_non)))))), ?_⟩
    obtain ⟨dyo, lo, so, hpo, _⟩ := id ho
    have h64 := cells64 c hd
    have hlw : L.length = (cells m n c).length := List.Perm.length_eq hw
    have hnd : L.Nodup := (List.Perm.nodup_iff hw).mpr (nodup_cells m n c)
    refine ⟨_, rfl, _, rfl, t, o, m, n, c, L, rfl, ht, ho, hd, hw, fun H1 s1 => ?_⟩
    refine ⟨_, rfl, z, rfl, hz, ?_⟩
    refine ⟨_, rfl, o, dyo, _, rfl, s1 _ _ hpo, rfl, o, L, rfl, ho.same s1, fun H2 l s2 hl ⟨ts, ol, q⟩ => ?_⟩
    refine ⟨l, rfl, ⟨_, SqL.of ol⟩, fun D hD => ?_⟩
    refine walk_go (walk_list (xs := ts.map V.ref)) (fun i H' => Same H2 H' ∧ DmAt H' D (L.take i) (fun _ => .bl true)) ⟨Same.new hD, upd_same⟩ (fun i H' _ ⟨s, _⟩ => SqL.of (s _ _ ol)) ?_ ?_
    · rintro i x H' H'' hi ⟨s, o⟩ ⟨rfl, hx⟩
      obtain ⟨t', et, rfl⟩ := map_ref_at hx
      obtain ⟨r, er, hr'⟩ := q.of et
      refine ⟨rfl, _, rfl, t', _, _, rfl, ky_tup (s _ _ hr'), o, ?_, Same.up s hD, ?_⟩
      · rw [dm_len, List.length_take]
        exact Nat.lt_of_le_of_lt (Nat.le_trans (Nat.min_le_right _ _) (by rw [hlw]; exact h64)) (by decide)
      · show upd _ _ _ _ = _
        rw [upd_same, take_snoc er, dm_put_new (f := fun _ => .bl true) (nodup_take_not_mem hnd er)]
    · rintro H3 ⟨s3, o3⟩
      rw [List.length_map, q.1, List.take_length] at o3
      have s03 := s1.trans (s2.trans s3)
      have hD0 : H D = none := (s1.trans s2).free hD
      refine ⟨_, rfl, o, dyo, _, rfl, s03 _ _ hpo, rfl, o, L, rfl, ho.same s03, fun H4 l4 s4 hl4 ⟨ts4, ol4, q4⟩ => ?_⟩
      have hl40 : H l4 = none := s03.free hl4
      refine ⟨l4, rfl, ⟨_, SqL.of ol4⟩, for_list (fun i σ H' => ∃ v4 v5, σ = [some (.ref t), some (.ref o), some (.str z), some (.ref D), v4, v5] ∧ Same H H' ∧ H' l4 = some (.lst (ts4.map V.ref)) ∧ P2 H' ts4 L ∧ DmAt H' D (L.drop i) (fun _ => .bl true)) ⟨none, none, rfl, s03.trans s4, ol4, q4, s4 _ _ o3⟩
        (fun i σ H' _ ⟨_, _, _, _, o, _⟩ => SqL.of o) ?_ ?_⟩
      · rintro i x σ H' hx ⟨v4, v5, rfl, s, ol', q', hDm⟩
        obtain ⟨t', et, rfl⟩ := map_ref_at hx
        obtain ⟨r, er, hr'⟩ := q'.of et
        obtain ⟨w1, w2, w3⟩ := hw.mem (List.mem_of_getElem? er)
        have hil : i < L.length := (List.getElem?_eq_some_iff.mp er).1
        have hdr : L.drop i = r :: L.drop (i + 1) := by
          rw [List.drop_eq_getElem_cons hil]
          congr 1
          have := List.getElem?_eq_getElem hil
          rw [er] at this
          exact (Option.some.inj this).symm
        have hnd2 : (r :: L.drop (i + 1)).Nodup := by rw [← hdr]; exact hnd.sublist (List.drop_sublist _ _)
        have hrn : r ∉ L.drop (i + 1) := (List.nodup_cons.mp hnd2).1
        have hdrop : dropK (dm (L.drop i) fun _ => V.bl true) (ky r) = dm (L.drop (i + 1)) fun _ => V.bl true := by
          rw [dm_drop, hdr, List.filter_cons_of_neg (by simp)]
          congr 1
          exact List.filter_eq_self.mpr fun b hb => decide_eq_true (fun e => hrn (by rw [← e]; exact hb))
        refine ⟨_, rfl, _, rfl, D, t', _, ky r, rfl, rfl, hDm, ky_tup hr', ?_, ?_⟩
        · rw [dm_val, if_pos (by rw [hdr]; exact List.mem_cons_self)]; rfl
        rw [hdrop]
        have s5 : Same H (upd H' D (.dT (dm (L.drop (i + 1)) fun _ => V.bl true))) := Same.up s hD0
        have nD : ∀ {a : Addr} {xs : List V}, H' a = some (.lst xs) → a ≠ D := fun e => ne_of e hDm (by intro z; cases z)
        have nD2 : ∀ {a : Addr} {xs : List V}, H' a = some (.tup xs) → a ≠ D := fun e => ne_of e hDm (by intro z; cases z)
        refine ⟨_, rfl, _, rfl, _, rfl, _, rfl, t, D, t', z, m, n, r.1, r.2, c, L.drop (i + 1), fun _ => .bl true, rfl, ht.same s5, hd, upd_same, (upd_ne (nD2 hr')).trans hr', w1, w2, w3, fun p hp => (hw.mem (List.mem_of_mem_drop hp)).2.2, hn i r er, fun H5 s6 => ?_⟩
        refine ⟨rfl, _, rfl, ?_⟩
        refine ⟨_, _, rfl, s5.trans s6, s6 _ _ ((upd_ne (nD ol')).trans ol'), q'.map fun a x y e => s6 _ _ ((upd_ne (nD2 e)).trans e), s6 _ _ upd_same⟩
      · rintro σ H' ⟨v4, v5, rfl, s, _⟩
        exact k H' s
def sp_check_right (K : PySem.W.Frag) : Sp := fun vs H Q _ => ∃ (t o : Addr) (z : Str) (m n : Nat) (c : Nat → Nat → Option Int) (L : List Pr), vs = [.ref t, .ref o, .str z] ∧ TabAt K H t m n c ∧ OrdAt K H o L ∧ dim m n ∧ Whole m n c L ∧ isK z ∧ NoFault m n c z L ∧ ∀ H', Same H H' → Q .non H'
theorem ok_check_right (E : TX K mg) : FnOk P w K mg base CX0 7 (a_check_right K) (fdOf K (a_check_right K)) P_check_right (sp_check_right K) := by
  refine (f_check_right E).ok sc_check_right (fun vs H Q E' h => ?_) (fun cdv A outer s H vs Q E' hr h => ?_)
  · obtain ⟨_, _, _, _, _, _, _, rfl, _⟩ := h; rfl
  · obtain ⟨t, o, z, m, n, c, L, rfl, ht, ho, hd, hw, hz, hn, k⟩ := h
    refine ⟨_, PSs.nox (pss_cons (ps_set (i := 3) sc_check_right.nd rfl (Or.inl rfl) (pe_callN (ok_first_fault (K := K) E) (hr.mono (by decide)) rfl (g_first_fault (K := K) E) (k_first_fault (K := K) E) (b_first_fault (K := K) E) pass0 (pa_cons (pv 0) (pa_cons (pv 1) pa_nil)) (pk_cons (pv 2) pk_nil)))
    (pss_one (ps_if (pt_cmpR op_notN (pv 3) pe_non (nomark _)) (pss_one ps_never) pss_nil))), ?_⟩
    refine ⟨_, rfl, _, rfl, _, rfl, rfl, rfl, t, o, z, m, n, c, L, rfl, ht, ho, hd, hw, hz, hn, fun H1 s1 => ?_⟩
    exact ⟨_, rfl, rfl, _, rfl, k H1 s1⟩
def sp_check_both (K : PySem.W.Frag) : Sp := fun vs H Q _ => ∃ (t o o2 : Addr) (z : Str) (m n : Nat) (c : Nat → Nat → Option Int) (L L2 : List Pr), vs = [.ref t, .ref o, .ref o2, .str z] ∧ TabAt K H t m n c ∧ OrdAt K H o L ∧ OrdAt K H o2 L2 ∧ dim m n ∧ Whole m n c L ∧ Whole m n c L2 ∧ isK z ∧ NoFault m n c z L ∧ NoFault m n c z L2 ∧ ∀ H', Same H H' → Q .non H'
theorem ok_check_both (E : TX K mg) : FnOk P w K mg base CX0 8 (a_check_both K) (fdOf K (a_check_both K)) P_check_both (sp_check_both K) := by
  refine (f_check_both E).ok sc_check_both (fun vs H Q E' h => ?_) (fun cdv A outer s H vs Q E' hr h => ?_)
  · obtain ⟨_, _, _, _, _, _, _, _, _, rfl, _⟩ := h; rfl
  · obtain ⟨t, o, o2, z, m, n, c, L, L2, rfl, ht, ho, ho2, hd, hw, hw2, hz, hn, hn2, k⟩ := h
    refine ⟨_, PSs.nox (pss_cons (ps_expr (pe_call (ok_check_order (K := K) E) (hr.mono (by decide)) rfl (g_check_order (K := K) E) (k_check_order (K := K) E) (b_check_order (K := K) E) .nil pass0 (pa_cons (pv 0) (pa_cons (pv 1) pa_nil))))
    (pss_cons (ps_expr (pe_call (ok_check_order (K := K) E) (hr.mono (by decide)) rfl (g_check_order (K := K) E) (k_check_order (K := K) E) (b_check_order (K := K) E) .nil pass0 (pa_cons (pv 0) (pa_cons (pv 2) pa_nil))))
    (pss_cons (ps_expr (pe_call (ok_check_kind (K := K) E) (hr.mono (by decide)) rfl (g_check_kind (K := K) E) (k_check_kind (K := K) E) (b_check_kind (K := K) E) .nil pass0 (pa_cons (pv 3) pa_nil)))
    (pss_cons (ps_expr (pe_call (ok_check_right (K := K) E) (hr.mono (by decide)) rfl (g_check_right (K := K) E) (k_check_right (K := K) E) (b_check_right (K := K) E) .nil pass0 (pa_cons (pv 0) (pa_cons (pv 1) (pa_cons (pv 3) pa_nil)))))
    (pss_one (ps_expr (pe_call (ok_check_right (K := K) E) (hr.mono (by decide)) rfl (g_check_right (K := K) E) (k_check_right (K := K) E) (b_check_right (K := K) E) .nil pass0 (pa_cons (pv 0) (pa_cons (pv 2) (pa_cons (pv 3) pa_nil)))))))))), ?_⟩
    refine ⟨_, rfl, _, rfl, t, o, m, n, c, L, rfl, ht, ho, hd, hw, fun H1 s1 => ?_⟩
    refine ⟨_, rfl, _, rfl, t, o2, m, n, c, L2, rfl, ht.same s1, ho2.same s1, hd, hw2, fun H2 s2 => ?_⟩
    have s12 := s1.trans s2
    refine ⟨_, rfl, z, rfl, hz, ?_⟩
    refine ⟨_, rfl, _, rfl, _, rfl, t, o, z, m, n, c, L, rfl, ht.same s12, ho.same s12, hd, hw, hz, hn, fun H3 s3 => ?_⟩
    have s13 := s12.trans s3
    exact ⟨_, rfl, _, rfl, _, rfl, t, o2, z, m, n, c, L2, rfl, ht.same s13, ho2.same s13, hd, hw2, hz, hn2, fun H4 s4 => k H4 (s13.trans s4)⟩
end
end K78
end
section
set_option Elab.async false
set_option linter.all false
set_option maxRecDepth 100000
set_option maxHeartbeats 4000000
namespace K78
open PySem PySem.Spec PyProof.Rows L2 He
/-! ### lists as data -/
def pd (q : Pr) : PyData := .tuple [.int q.1, .int q.2]
theorem pd_eqv (q r : Pr) : PyData.eqv (pd q) (pd r) = decide (q = r) := by
  unfold pd
  simp only [PyData.eqv, PyData.eqvAll, Bool.and_true]
  by_cases e : q = r
  · subst e; simp
  · rw [decide_eq_false e]
    cases h : ((q.1 : Int) == (r.1 : Int)) with
    | false => rfl
    | true =>
      cases h2 : ((q.2 : Int) == (r.2 : Int)) with
      | false => rfl
      | true =>
        exfalso
        refine e (Prod.ext ?_ ?_)
        · have := eq_of_beq h; omega
        · have := eq_of_beq h2; omega
theorem pd_shaped (q : Pr) : SeqAt.shaped (pd q) = true := rfl
theorem pds_shaped (L : List Pr) : SeqAt.shaped (.list (L.map pd)) = true := by
  have h : PyData.canLayAll0 (L.map pd) = true ∧ PyData.depthAll (L.map pd) ≤ 1 := by
    induction L with
    | nil => exact ⟨rfl, Nat.zero_le _⟩
    | cons q L ih =>
      refine ⟨?_, ?_⟩
      · show (PyData.canLay0 (pd q) && PyData.canLayAll0 (L.map pd)) = true
        rw [ih.1]; rfl
      · show max (PyData.depth (pd q)) (PyData.depthAll (L.map pd)) ≤ 1
        have : PyData.depth (pd q) = 1 := rfl
        have := ih.2
        omega
  unfold SeqAt.shaped
  rw [Bool.and_eq_true]
  refine ⟨?_, decide_eq_true ?_⟩
  · show PyData.canLayAll0 _ = true
    exact h.1
  · show PyData.depthAll _ + 1 ≤ 64
    have := h.2
    omega
section
variable {P : Program} {w : World} {K : PySem.W.Frag} {mg : Str → Option Value} {base : Heap}
theorem pd_dp {H : Hp} {t : Addr} {q : Pr} (h : T2 H t q.1 q.2) : Dp K H (.ref t) (pd q) := .tup (t2_at h) (.cons (.int _) (.cons (.int _) .nil))
theorem P2.tail {H : Hp} {t : Addr} {ts : List Addr} {q : Pr} {L : List Pr} (h : P2 H (t :: ts) (q :: L)) : T2 H t q.1 q.2 ∧ P2 H ts L :=
  ⟨h.2 0 t q rfl rfl, by have := h.1; simpa using this, fun k a r e1 e2 => h.2 (k + 1) a r e1 e2⟩
theorem pds_dpAll {H : Hp} : ∀ {L : List Pr} {ts : List Addr}, P2 H ts L → DpAll K H (ts.map V.ref) (L.map pd)
  | [], [], _ => .nil
  | [], _ :: _, h => by have := h.1; cases this
  | _ :: _, [], h => by have := h.1; cases this
  | q :: L, t :: ts, h => .cons (pd_dp h.tail.1) (pds_dpAll h.tail.2)
theorem pds_dp {H : Hp} {a : Addr} {ts : List Addr} {L : List Pr} (o : H a = some (.lst (ts.map V.ref))) (h : P2 H ts L) : Dp K H (.ref a) (.list (L.map pd)) := .lst (SqL.of o) (pds_dpAll h)
theorem nofault_near {m n : Nat} {c : Nat → Nat → Option Int} {z : Str} {L1 L2 L : List Pr} (h1 : NoFault m n c z L1) (h2 : NoFault m n c z L2) (h : Near L1 L2 L) : NoFault m n c z L := by
  have mono : ∀ {B B' : List Pr} {i j : Nat}, NoBar m n c z B i j → (∀ b ∈ B', b ∈ B) → NoBar m n c z B' i j := fun {B B' i j} ⟨a1, a2, a3⟩ s =>
    ⟨fun r s' x1 x2 x3 x4 x5 x6 => a1 r s' x1 x2 x3 x4 (s _ x5) (s _ x6), fun hA r x1 x2 x3 => a2 hA r x1 x2 (s _ x3), fun hB r x1 x2 x3 => a3 hB r x1 x2 (s _ x3)⟩
  intro k q e
  have hk := (List.getElem?_eq_some_iff.mp e).1
  have el : L = L.take k ++ q :: L.drop (k + 1) := by
    have : q = L[k] := by
      rw [List.getElem?_eq_getElem hk] at e
      exact (Option.some.inj e).symm
    rw [this, ← List.drop_eq_getElem_cons hk, List.take_append_drop]
  have find : ∀ {M A B : List Pr}, M = A ++ q :: B → M[A.length]? = some q ∧ M.drop (A.length + 1) = B := fun {M A B} eM => by
    rw [eM]
    refine ⟨by rw [List.getElem?_append_right (Nat.le_refl _), Nat.sub_self]; rfl, ?_⟩
    simp [List.drop_append]
  rcases h _ _ _ el with ⟨A1, B1, e1, s⟩ | ⟨A2, B2, e2, s⟩
  · obtain ⟨f1, f2⟩ := find e1
    have := h1 A1.length q f1
    rw [f2] at this
    exact mono this s
  · obtain ⟨f1, f2⟩ := find e2
    have := h2 A2.length q f1
    rw [f2] at this
    exact mono this s
def intAt (σ : L2.St) (k : Nat) : Int := match σ[k]? with
  | some (some (.int i)) => i
  | _ => 0
abbrev nv (k : Nat) : V := .int (k : Int)
def sp_led (K : PySem.W.Frag) : Sp := fun vs H Q _ => ∃ (t o o2 : Addr) (z : Str) (m n : Nat) (c : Nat → Nat → Option Int) (L1 L2 : List Pr), vs = [.ref t, .ref o, .ref o2, .str z] ∧ TabAt K H t m n c ∧ OrdAt K H o L1 ∧ OrdAt K H o2 L2 ∧ dim m n ∧ Whole m n c L1 ∧ Whole m n c L2 ∧ isK z ∧ NoFault m n c z L1 ∧ NoFault m n c z L2 ∧
  ∀ H' a ks os, Same H H' → H a = none → H' a = some (.lst (ks.map nv)) → ks.length ≤ 4096 → Ways (NoFault m n c z) L1 ks os → os[ks.length]? = some L2 → Q (.ref a) H'
theorem ok_led (E : TX K mg) : FnOk P w K mg base CX0 9 (a_led K) (fdOf K (a_led K)) P_led (sp_led K) := by
  refine (f_led E).ok sc_led (fun vs H Q E' h => ?_) (fun cdv A outer s H vs Q E' hr h => ?_)
  · obtain ⟨_, _, _, _, _, _, _, _, _, rfl, _⟩ := h; rfl
  · obtain ⟨t, o, o2, z, m, n, c, L1, L2, rfl, ht, ho, ho2, hd, hw, hw2, hz, hn, hn2, k⟩ := h
    refine ⟨_, PSs.nox (pss_cons (ps_expr (pe_call (ok_check_both (K := K) E) (hr.mono (by decide)) rfl (g_check_both (K := K) E) (k_check_both (K := K) E) (b_check_both (K := K) E) .nil pass0 (pa_cons (pv 0) (pa_cons (pv 1) (pa_cons (pv 2) (pa_cons (pv 3) pa_nil))))))
    (pss_cons (ps_set (i := 4) sc_led.nd rfl (Or.inl rfl) (pe_meth0 (pv 1) (cl_Order (K := K) E) (m_Order_pairs (K := K) E) (ok_Order_pairs (K := K) E) (hr.mono (by decide)) (b_Order_pairs (K := K) E) .nil pass0))
    (pss_cons (ps_set (i := 5) sc_led.nd rfl (Or.inl rfl) (pe_lst pa_nil))
    (pss_cons (ps_for PassesOwn.never rfl (pi_enum rfl (fr_enumerate (K := K) E) (pa_cons (pe_meth0 (pv 2) (cl_Order (K := K) E) (m_Order_pairs (K := K) E) (ok_Order_pairs (K := K) E) (hr.mono (by decide)) (b_Order_pairs (K := K) E) .nil pass0) pa_nil)) (pg_tup rfl (pgs_cons (pg_name (i := 6) sc_led.nd rfl (Or.inl rfl)) (pgs_cons (pg_name (i := 7) sc_led.nd rfl (Or.inl rfl)) pgs_nil)))
    (pss_cons (ps_set (i := 8) sc_led.nd rfl (Or.inl rfl) (pe_bm PySem.F.plainAttrs_list PySem.F.slot_list_index PySem.F.type_list_index (mt_indexD (hu65 hr)) (pv 4) (pa_cons (pv 7) pa_nil)))
    (pss_one (ps_while PassesOwn.never (pt_cmpR op_gt (pv 8) (pv 6) (nomark _))
    (pss_cons (ps_asg (pe_ix ix_list (pv 4) (pe_op op_sub (pv 8) pe_int) (fun _ _ => rfl)) (pg_sub (pv 4) (pv 8) set_list))
    (pss_cons (ps_asg (pv 7) (pg_sub (pv 4) (pe_op op_sub (pv 8) pe_int) set_list))
    (pss_cons (ps_aug (i := 8) sc_led.nd rfl (Or.inl rfl) pe_int ip_sub)
    (pss_one (ps_expr (pe_bm PySem.F.plainAttrs_list PySem.F.slot_list_append PySem.F.type_list_append mt_append (pv 5) (pa_cons (pv 8) pa_nil)))))))))))
    (pss_one (ps_ret (pv 5))))))), ?_⟩
    obtain ⟨dy1, lo1, so1, hpo1, _⟩ := id ho
    obtain ⟨dy2, lo2, so2, hpo2, _⟩ := id ho2
    have h64 := cells64 c hd
    have hlw : L1.length ≤ 64 := Nat.le_trans (Nat.le_of_eq (List.Perm.length_eq hw)) h64
    have hlw2 : L2.length ≤ 64 := Nat.le_trans (Nat.le_of_eq (List.Perm.length_eq hw2)) h64
    have hperm : L1.Perm L2 := List.Perm.trans hw (List.Perm.symm hw2)
    have hnd2 : L2.Nodup := (List.Perm.nodup_iff hw2).mpr (nodup_cells m n c)
    refine ⟨_, rfl, _, rfl, _, rfl, _, rfl, t, o, o2, z, m, n, c, L1, L2, rfl, ht, ho, ho2, hd, hw, hw2, hz, hn, hn2, fun H1 s1 => ?_⟩
    refine ⟨_, rfl, o, dy1, _, rfl, s1 _ _ hpo1, rfl, o, L1, rfl, ho.same s1, fun H2 pr s2 hpr ⟨ts, op, q⟩ => ?_⟩
    refine ⟨Nat.zero_le _, fun ex hex => ?_⟩
    have s12 := s1.trans s2
    have nprex : pr ≠ ex := ne_of_none op hex
    have s3 := Same.new hex (o := .lst [])
    have s13 := s12.trans s3
    have hpr0 : H pr = none := s1.free hpr
    have hex0 : H ex = none := s12.free hex
    refine ⟨_, rfl, o2, dy2, _, rfl, s13 _ _ hpo2, rfl, o2, L2, rfl, ho2.same s13, fun H4 l4 s4 hl4 ⟨ts2, ol, q2⟩ => ?_⟩
    have hl40 : H l4 = none := s13.free hl4
    have nl4ex : l4 ≠ ex := (ne_of_none upd_same hl4).symm
    have nl4pr : l4 ≠ pr := (ne_of_none (s3 _ _ op) hl4).symm
    refine ⟨l4, _, rfl, SqL.of ol, ?_⟩
    refine for_it (walk_enum (xs := ts2.map V.ref)) (fun i σ H' => ∃ (v6 v7 v8 : Option V) (L T : List Pr) (ks : List Nat) (os : List (List Pr)) (ts : List Addr), σ = [some (.ref t), some (.ref o), some (.ref o2), some (.str z), some (.ref pr), some (.ref ex), v6, v7, v8] ∧ Same H H' ∧ H' l4 = some (.lst (ts2.map V.ref)) ∧ P2 H' ts2 L2 ∧
        H' pr = some (.lst (ts.map V.ref)) ∧ P2 H' ts L ∧ H' ex = some (.lst (ks.map nv)) ∧ Rest L1 L2 (L2.take i) T L ∧ Ways (NoFault m n c z) L1 ks os ∧ os[ks.length]? = some L ∧ ks.length ≤ 64 * i)
      ⟨none, none, none, L1, L1, [], [L1], ts, rfl, s13.trans s4, ol, q2, s4 _ _ (s3 _ _ op), (q.same s3).same s4, s4 _ _ upd_same, Rest.zero hperm hnd2, Ways.start hn, rfl, Nat.le_refl _⟩
      (fun i σ H' hi ⟨_, _, _, _, _, _, _, _, _, _, o, _⟩ => SqL.of o) ?_ ?_
    · rintro i x σ H' H'' hi ⟨v6, v7, v8, L, Tt, ks, os, ts, rfl, s, ol', q2', op', q', oe, R, wy, hl, hkl⟩ ⟨T, y1, y2, rfl, hT, rfl, e1, e2⟩
      cases e1
      obtain ⟨tp, etp, rfl⟩ := map_ref_at e2
      obtain ⟨x, ex2, hx⟩ := q2'.of etp
      have hil : i < L2.length := (List.getElem?_eq_some_iff.mp ex2).1
      have eL2 : L2 = L2.take i ++ x :: L2.drop (i + 1) := by
        have : x = L2[i] := by
          rw [List.getElem?_eq_getElem hil] at ex2
          exact (Option.some.inj ex2).symm
        rw [this, ← List.drop_eq_getElem_cons hil, List.take_append_drop]
      obtain ⟨U, W, eT, B⟩ := R.bub eL2
      have hti : (L2.take i).length = i := by rw [List.length_take]; omega
      have sT := Same.new hT (o := .tup [.int (i : Int), .ref tp])
      refine ⟨_, _, rfl, .inl (.inl upd_same), rfl, _, _, rfl, _, _, rfl, rfl, ?_⟩
      have op2 := sT _ _ op'
      have q3 := q'.same sT
      have hx2 := sT _ _ hx
      refine ⟨_, rfl, .inl ⟨rfl, _, SqL.of op2⟩, _, rfl, pr, _, pd x, L.map pd, i + U.length, pd x, rfl, rfl, pds_dp op2 q3, pd_dp hx2, pds_shaped _, pd_shaped _, ?_, by rw [pd_eqv, decide_eq_true rfl], ?_, ?_⟩
      · rw [List.getElem?_map, B.l, ← List.append_assoc, List.getElem?_append_right (by rw [List.length_append, hti]; exact Nat.le_refl _), List.length_append, hti, Nat.sub_self]
        rfl
      · intro a z' ha hz'
        rw [List.getElem?_map] at hz'
        cases e : L[a]? with
        | none => rw [e] at hz'; cases hz'
        | some y =>
          rw [e] at hz'
          cases hz'
          rw [pd_eqv]
          refine decide_eq_false fun eyx => ?_
          have hnd := B.ndl
          rw [eyx] at e
          have e3 : L[i + U.length]? = some x := by
            rw [B.l, ← List.append_assoc, List.getElem?_append_right (by rw [List.length_append, hti]; exact Nat.le_refl _), List.length_append, hti, Nat.sub_self]
            rfl
          obtain ⟨l1, f1⟩ := List.getElem?_eq_some_iff.mp e
          obtain ⟨l2, f2⟩ := List.getElem?_eq_some_iff.mp e3
          have := (List.getElem_inj hnd).mp (f1.trans f2.symm)
          omega
      · have hUl : U.length ≤ 64 := by
          have h1 := List.Perm.length_eq B.perm
          rw [B.l] at h1
          simp only [List.length_append, List.length_cons] at h1
          omega
        refine while_by (fun σ H' => ∃ (U V' : List Pr) (L : List Pr) (ks : List Nat) (os : List (List Pr)) (ts : List Addr), σ = [some (.ref t), some (.ref o), some (.ref o2), some (.str z), some (.ref pr), some (.ref ex), some (.int (i : Int)), some (.ref tp), some (nv (i + U.length))] ∧ Same H H' ∧ H' l4 = some (.lst (ts2.map V.ref)) ∧ P2 H' ts2 L2 ∧ T2 H' tp x.1 x.2 ∧
            H' pr = some (.lst (ts.map V.ref)) ∧ P2 H' ts L ∧ H' ex = some (.lst (ks.map nv)) ∧ Bub L1 L2 (L2.take i) x U V' W L ∧ Ways (NoFault m n c z) L1 ks os ∧ os[ks.length]? = some L ∧ ks.length + U.length ≤ 64 * (i + 1)) (fun σ _ => (intAt σ 8).toNat)
          ⟨U, [], L, ks, os, ts, rfl, Same.new0 s hT, sT _ _ ol', q2'.same sT, hx2, op2, q3, sT _ _ oe, B, wy, hl, by omega⟩ ?_ (fun σ H Q Q' hm ⟨a, f1, b, f2, i', j', f3, f4, k', f5, q⟩ => ⟨a, f1, b, f2, i', j', f3, f4, k', f5, hm _ _ q⟩)
        rintro σ H' ⟨U, Vv, L, ks, os, ts, rfl, s, ol', q2', hx, op', q', oe, B, wy, hl, hkl⟩
        refine ⟨_, rfl, _, rfl, _, _, rfl, rfl, _, rfl, ?_⟩
        rcases List.eq_nil_or_concat U with eU | ⟨U', y, eU⟩
        · subst eU
          refine ite2 (fun h => absurd (of_decide_eq_true h) (by show ¬ (((i + 0 : Nat) : Int) > (i : Int)); omega)) (fun _ => ?_)
          have R2 := B.rest
          have ett : L2.take i ++ [x] = L2.take (i + 1) := (take_snoc ex2).symm
          rw [ett] at R2
          exact ⟨_, _, _, L, _, ks, os, ts, rfl, s, ol', q2', op', q', oe, R2, wy, hl, by simpa using hkl⟩
        · rw [List.concat_eq_append] at eU
          subst eU
          refine ite2 (fun _ => ?_) (fun h => absurd (decide_eq_true (by show (((i + (U' ++ [y]).length : Nat) : Int) > (i : Int)); rw [List.length_append, List.length_singleton]; omega)) h)
          obtain ⟨eL, B2⟩ := B.step
          have elen : i + (U' ++ [y]).length = (i + U'.length) + 1 := by rw [List.length_append, List.length_singleton]; omega
          have hAl : (L2.take i ++ U').length = i + U'.length := by rw [List.length_append, hti]
          have em1 : ((i + (U' ++ [y]).length : Nat) : Int) - 1 = ((i + U'.length : Nat) : Int) := by rw [elen]; omega
          have gy : L[i + U'.length]? = some y := by
            rw [eL, List.getElem?_append_right (by rw [hAl]; exact Nat.le_refl _), hAl, Nat.sub_self]; rfl
          obtain ⟨ty, ety, hty⟩ := q'.at_ gy
          have ety' : (ts.map V.ref)[i + U'.length]? = some (V.ref ty) := by rw [List.getElem?_map, ety]; rfl
          have htl : ts.length = L.length := q'.1
          have hLl : (i + U'.length) + 1 < L.length := by
            rw [eL, List.length_append, hAl]
            simp only [List.length_cons]
            omega
          refine ⟨_, rfl, _, rfl, _, _, rfl, rfl, pr, _, _, V.ref ty, rfl, rfl, SqL.of op', ?_, ?_⟩
          · show atI _ (((i + (U' ++ [y]).length : Nat) : Int) - 1) = some (V.ref ty)
            rw [em1]
            exact atI_nat ety'
          refine ⟨_, rfl, _, rfl, pr, _, _, (i + U'.length) + 1, rfl, rfl, op', ?_, ?_⟩
          · rw [elen]
            exact ixN_at (by rw [List.length_map, htl]; exact hLl)
          rw [map_ref_set]
          have nprex' : pr ≠ ex := nprex
          have nprt : ∀ {a : Addr} {xs : List V}, H' a = some (.tup xs) → a ≠ pr := fun e => ne_of e op' (by intro z; cases z)
          have next : ∀ {a : Addr} {xs : List V}, H' a = some (.tup xs) → a ≠ ex := fun e => ne_of e oe (by intro z; cases z)
          refine ⟨_, rfl, _, rfl, _, rfl, _, _, rfl, rfl, pr, _, _, i + U'.length, rfl, rfl, upd_same, ?_, ?_⟩
          · show ixN _ (((i + (U' ++ [y]).length : Nat) : Int) - 1) = some _
            rw [em1]
            exact ixN_at (by rw [List.length_map, List.length_set, htl]; omega)
          rw [map_ref_set]
          refine ⟨_, rfl, _, _, rfl, rfl, ?_⟩
          refine ⟨_, rfl, .inl ⟨rfl, _, SqL.of ((upd_ne nprex.symm).trans ((upd_ne nprex.symm).trans oe))⟩, _, rfl, ex, _, _, rfl, rfl, (upd_ne nprex.symm).trans ((upd_ne nprex.symm).trans oe), ?_, ?_⟩
          · rw [List.length_map]
            exact Nat.lt_of_le_of_lt (show ks.length ≤ 64 * 65 by omega) (by decide)
          refine ⟨⟨U', y :: Vv, (L2.take i ++ U') ++ x :: y :: (Vv ++ W), ks ++ [(L2.take i ++ U').length], os ++ [(L2.take i ++ U') ++ x :: y :: (Vv ++ W)], (ts.set ((i + U'.length) + 1) ty).set (i + U'.length) tp, ?_, ?_, ?_, ?_, ?_, ?_, ?_, ?_, B2, ?_, ?_, ?_⟩, ?_⟩
          · show List.set _ 8 (some (V.int (((i + (U' ++ [y]).length : Nat) : Int) - 1))) = _
            rw [em1]; rfl
          · exact Same.up (Same.up (Same.up s hpr0) hpr0) hex0
          · rw [upd_ne nl4ex, upd_ne nl4pr, upd_ne nl4pr]
            exact ol'
          · exact q2'.map fun a u v e => (upd_ne (next e)).trans ((upd_ne (nprt e)).trans ((upd_ne (nprt e)).trans e))
          · exact (upd_ne (next hx)).trans ((upd_ne (nprt hx)).trans ((upd_ne (nprt hx)).trans hx))
          · rw [upd_ne nprex, upd_same]
          · have p1 := (q'.set ((i + U'.length) + 1) hty).set (i + U'.length) hx
            have e5 : (L.set ((i + U'.length) + 1) y).set (i + U'.length) x = (L2.take i ++ U') ++ x :: y :: (Vv ++ W) := by
              rw [eL, ← hAl]
              rw [List.set_append_right _ _ (Nat.le_succ _), show (L2.take i ++ U').length.succ - (L2.take i ++ U').length = 1 by omega]
              show ((L2.take i ++ U') ++ (y :: y :: (Vv ++ W))).set _ x = _
              rw [List.set_append_right _ _ (Nat.le_refl _), Nat.sub_self]
              rfl
            rw [e5] at p1
            exact p1.map fun a u v e => (upd_ne (next e)).trans ((upd_ne (nprt e)).trans ((upd_ne (nprt e)).trans e))
          · rw [upd_same, List.map_append, hAl]
            show some (HO.lst (ks.map nv ++ [V.int (((i + (U' ++ [y]).length : Nat) : Int) - 1)])) = _
            rw [em1]
            rfl
          · rw [eL] at hl
            exact Ways.snoc wy hl (nofault_near hn hn2 B2.near)
          · rw [List.length_append, List.length_singleton, List.getElem?_append_right (by rw [wy.len]; exact Nat.le_refl _), wy.len, Nat.sub_self]
            rfl
          · rw [List.length_append, List.length_append] at *
            simp only [List.length_singleton] at *
            omega
          · show (intAt (List.set _ 8 (some (V.int (((i + (U' ++ [y]).length : Nat) : Int) - 1)))) 8).toNat < (((i + (U' ++ [y]).length : Nat) : Int)).toNat
            rw [em1]
            show (((i + U'.length : Nat) : Int)).toNat < _
            rw [elen]
            omega
    · rintro σ H' ⟨v6, v7, v8, L, Tt, ks, os, ts, rfl, s, ol', q2', op', q', oe, R, wy, hl, hkl⟩
      rw [List.length_map, q2.1, List.take_length] at R
      have eL := R.done
      rw [eL] at hl
      rw [List.length_map, q2.1] at hkl
      exact ⟨_, rfl, k H' ex ks os s hex0 oe (by omega) wy hl⟩
end
end K78
end
section
set_option Elab.async false
set_option linter.all false
set_option maxRecDepth 100000
set_option maxHeartbeats 4000000
namespace K78
open PySem PySem.Spec PyProof.Rows L2 He
def Xa (m n : Nat) (f : Nat → Nat → Int) (sf tf : Nat → Option Int) : Prop := ∀ j, j < n → tf j ≠ none → ∀ i, i < m → 0 < f i j → sf i ≠ none
theorem ov_oset (g : Nat → Option Int) (i : Nat) (v : Option Int) (n : Nat) : (rg n fun k => if k = i then ov v else ov (g k)) = rg n fun k => ov (oset g i v k) :=
  rg_congr fun k _ => by unfold oset; split <;> rfl
theorem nv_snoc (qs : List Nat) (k : Nat) : qs.map nv ++ [nv k] = (qs ++ [k]).map nv := by rw [List.map_append]; rfl
section
variable {P : Program} {w : World} {K : PySem.W.Frag} {mg : Str → Option Value} {base : Heap}
/-- the lists that reach works at -/
structure RSt (H H' : Hp) (A B Qa : Addr) (m n : Nat) (qs : List Nat) (sf tf : Nat → Option Int) : Prop where
  s : Same H H'
  a : RowAt H' A m sf
  b : RowAt H' B n tf
  q : H' Qa = some (.lst (qs.map nv))
structure RAd (H : Hp) (A B Qa : Addr) : Prop where
  a : H A = none
  b : H B = none
  q : H Qa = none
  ab : A ≠ B
  aq : A ≠ Qa
  bq : B ≠ Qa
theorem RSt.same {H H' H'' : Hp} {A B Qa : Addr} {m n : Nat} {qs : List Nat} {sf tf : Nat → Option Int} (r : RSt H H' A B Qa m n qs sf tf) (s : Same H' H'') : RSt H H'' A B Qa m n qs sf tf := ⟨r.s.trans s, s _ _ r.a, s _ _ r.b, s _ _ r.q⟩
theorem RSt.setA {H H' : Hp} {A B Qa : Addr} {m n : Nat} {qs : List Nat} {sf tf : Nat → Option Int} (d : RAd H A B Qa) (r : RSt H H' A B Qa m n qs sf tf) (i : Nat) (v : Option Int) : RSt H (upd H' A (.lst ((rg m fun k => ov (sf k)).set i (ov v)))) A B Qa m n qs (oset sf i v) tf :=
  ⟨Same.up r.s d.a, by show upd _ _ _ _ = _; rw [upd_same, rg_set, ov_oset], (upd_ne d.ab.symm).trans r.b, (upd_ne d.aq.symm).trans r.q⟩
theorem RSt.setB {H H' : Hp} {A B Qa : Addr} {m n : Nat} {qs : List Nat} {sf tf : Nat → Option Int} (d : RAd H A B Qa) (r : RSt H H' A B Qa m n qs sf tf) (i : Nat) (v : Option Int) : RSt H (upd H' B (.lst ((rg n fun k => ov (tf k)).set i (ov v)))) A B Qa m n qs sf (oset tf i v) :=
  ⟨Same.up r.s d.b, (upd_ne d.ab).trans r.a, by show upd _ _ _ _ = _; rw [upd_same, rg_set, ov_oset], (upd_ne d.bq.symm).trans r.q⟩
theorem RSt.push {H H' : Hp} {A B Qa : Addr} {m n : Nat} {qs : List Nat} {sf tf : Nat → Option Int} (d : RAd H A B Qa) (r : RSt H H' A B Qa m n qs sf tf) (i : Nat) : RSt H (upd H' Qa (.lst (qs.map nv ++ [nv i]))) A B Qa m n (qs ++ [i]) sf tf :=
  ⟨Same.up r.s d.q, (upd_ne d.aq).trans r.a, (upd_ne d.bq).trans r.b, by rw [upd_same, nv_snoc]⟩
def sp_reach (K : PySem.W.Frag) : Sp := fun vs H Q _ => ∃ (gu gf gs gt : Addr) (m n : Nat) (U : Nat → Nat → Bool) (f : Nat → Nat → Int) (sl tl : Nat → Int) (ru rf : Nat → Addr), vs = [.ref gu, .ref gf, .ref gs, .ref gt] ∧
  RowsAt H gu m n (fun i j => .bl (U i j)) ru ∧ RowsAt H gf m n (fun i j => .int (f i j)) rf ∧ IntsAt H gs m sl ∧ IntsAt H gt n tl ∧ m ≤ 9 ∧ n ≤ 9 ∧
  ∀ H' T A B sf tf ρ gv, Same H H' → H T = none → H' T = some (.tup [.ref A, .ref B, gv]) → RowAt H' A m sf → RowAt H' B n tf → H A = none → H B = none → A ≠ B → Found m n U f sl sf tf ρ →
    ((∃ g : Nat, g < n ∧ gv = .int (g : Int) ∧ tf g ≠ none ∧ 0 < tl g) ∨ (gv = .non ∧ Closed m n U f tl sf tf)) → Q (.ref T) H'
theorem ok_reach (E : TX K mg) : FnOk P w K mg base CX0 1 (a_reach K) (fdOf K (a_reach K)) P_reach (sp_reach K) := by
  refine (f_reach E).ok sc_reach (fun vs H Q E' h => ?_) (fun cdv A outer s H vs Q E' hr h => ?_)
  · obtain ⟨_, _, _, _, _, _, _, _, _, _, _, _, rfl, _⟩ := h; rfl
  · obtain ⟨gu, gf, gs, gt, m, n, U, f, sl, tl, ru, rf, rfl, hu, hf, hs, ht, hm, hn, k⟩ := h
    refine ⟨_, PSs.nox (pss_cons (ps_setLc (i := 4) (own := [("row", 5)]) rfl sc_reach.nd rfl rfl (sw_true rfl rfl rfl (by decide +kernel)) (pi_list (pv 0)) (blkOk_by (own := [("row", 5)]) (N := N_reach) (sc := defScope s_reach) (by decide +kernel)) (fun _ _ _ _ _ => (pg_name (i := 5) sc_reach.nd rfl (Or.inl rfl))) (fun _ _ _ _ _ => pts_nil) (fun _ _ _ _ _ => pe_non))
    (pss_cons (ps_setLc (i := 6) (own := [("target", 7)]) rfl sc_reach.nd rfl rfl (sw_true rfl rfl rfl (by decide +kernel)) (pi_list (pv 3)) (blkOk_by (own := [("target", 7)]) (N := N_reach) (sc := defScope s_reach) (by decide +kernel)) (fun _ _ _ _ _ => (pg_name (i := 7) sc_reach.nd rfl (Or.inl rfl))) (fun _ _ _ _ _ => pts_nil) (fun _ _ _ _ _ => pe_non))
    (pss_cons (ps_set (i := 8) sc_reach.nd rfl (Or.inl rfl) (pe_lst pa_nil))
    (pss_cons (ps_for PassesOwn.never rfl (pi_enum rfl (fr_enumerate (K := K) E) (pa_cons (pv 2) pa_nil)) (pg_tup rfl (pgs_cons (pg_name (i := 9) sc_reach.nd rfl (Or.inl rfl)) (pgs_cons (pg_name (i := 10) sc_reach.nd rfl (Or.inl rfl)) pgs_nil)))
    (pss_one (ps_if (pt_cmpR op_gt (pv 10) pe_int (nomark _)) (pss_cons (ps_asg (pe_un un_neg pe_int) (pg_sub (pv 4) (pv 9) set_list))
    (pss_one (ps_expr (pe_bm PySem.F.plainAttrs_list PySem.F.slot_list_append PySem.F.type_list_append mt_append (pv 8) (pa_cons (pv 9) pa_nil))))) pss_nil)))
    (pss_cons (ps_set (i := 11) sc_reach.nd rfl (Or.inl rfl) pe_int)
    (pss_cons (ps_while PassesOwn.never (pt_cmpR op_lt (pv 11) (pe_callB call_len_seq (by rfl) (fr_len (K := K) E) boot_len (pa_cons (pv 8) pa_nil)) (nomark _))
    (pss_cons (ps_set (i := 9) sc_reach.nd rfl (Or.inl rfl) (pe_ix ix_list (pv 8) (pv 11) (fun _ _ => rfl)))
    (pss_cons (ps_aug (i := 11) sc_reach.nd rfl (Or.inl rfl) pe_int ip_add)
    (pss_one (ps_for PassesOwn.never rfl (pi_enum rfl (fr_enumerate (K := K) E) (pa_cons (pe_ix ix_list (pv 0) (pv 9) (fun _ _ => rfl)) pa_nil)) (pg_tup rfl (pgs_cons (pg_name (i := 7) sc_reach.nd rfl (Or.inl rfl)) (pgs_cons (pg_name (i := 12) sc_reach.nd rfl (Or.inl rfl)) pgs_nil)))
    (pss_cons (ps_if (PW.pt (pw_or (pt_not (pt_val (pv 12))) (pw_or1 (pt_cmpR op_notN (pe_ix ix_list (pv 6) (pv 7) (fun _ _ => rfl)) pe_non (nomark _))))) (pss_one ps_continue) pss_nil)
    (pss_cons (ps_asg (pv 9) (pg_sub (pv 6) (pv 7) set_list))
    (pss_cons (ps_if (pt_cmpR op_gt (pe_ix ix_list (pv 3) (pv 7) (fun _ _ => rfl)) pe_int (nomark _)) (pss_one (ps_ret (pe_tup (pa_cons (pv 4) (pa_cons (pv 6) (pa_cons (pv 7) pa_nil)))))) pss_nil)
    (pss_one (ps_for PassesOwn.never rfl (pi_range1 rfl (fr_range (K := K) E) (pa_cons (pe_callB call_len_seq (by rfl) (fr_len (K := K) E) boot_len (pa_cons (pv 0) pa_nil)) pa_nil)) (pg_name (i := 13) sc_reach.nd rfl (Or.inl rfl))
    (pss_one (ps_if (PW.pt (pw_and (pt_cmpR op_gt (pe_ix ix_list (pe_ix ix_list (pv 1) (pv 13) (fun _ _ => rfl)) (pv 7) (fun _ _ => rfl)) pe_int (nomark _)) (pw_and1 (pt_cmpR op_isN (pe_ix ix_list (pv 4) (pv 13) (fun _ _ => rfl)) pe_non (nomark _))))) (pss_cons (ps_asg (pv 7) (pg_sub (pv 4) (pv 13) set_list))
    (pss_one (ps_expr (pe_bm PySem.F.plainAttrs_list PySem.F.slot_list_append PySem.F.type_list_append mt_append (pv 8) (pa_cons (pv 13) pa_nil))))) pss_nil))))))))))))
    (pss_one (ps_ret (pe_tup (pa_cons (pv 4) (pa_cons (pv 6) (pa_cons pe_non pa_nil)))))))))))), ?_⟩
    refine ⟨_, rfl, gu, rfl, ⟨_, SqL.of hu.o⟩, fun A hA => ?_⟩
    refine walk_go (walk_list (xs := rg m fun i => .ref (ru i))) (fun i H' => Same H H' ∧ H' A = some (.lst (rg i fun _ => .non))) ⟨Same.new hA, upd_same⟩ (fun i H' _ ⟨s, _⟩ => SqL.of (s _ _ hu.o)) ?_ ?_
    · rintro i x H' H'' hi ⟨s, o⟩ ⟨rfl, hx⟩
      rw [rg_len] at hi
      exact ⟨rfl, _, o, by rw [rg_len]; exact Nat.lt_of_lt_of_le hi (Nat.le_trans hm (by decide)), Same.up s hA, by rw [upd_same, rg_snoc i fun _ => V.non]⟩
    rintro H1 ⟨s1, oA⟩
    rw [rg_len] at oA
    refine ⟨_, rfl, gt, rfl, ⟨_, SqL.of (s1 _ _ ht)⟩, fun B hB => ?_⟩
    refine walk_go (walk_list (xs := rg n fun i => .int (tl i))) (fun i H' => Same H1 H' ∧ H' B = some (.lst (rg i fun _ => .non))) ⟨Same.new hB, upd_same⟩ (fun i H' _ ⟨s, _⟩ => SqL.of (s _ _ (s1 _ _ ht))) ?_ ?_
    · rintro i x H' H'' hi ⟨s, o⟩ ⟨rfl, hx⟩
      rw [rg_len] at hi
      exact ⟨rfl, _, o, by rw [rg_len]; exact Nat.lt_of_lt_of_le hi (Nat.le_trans hn (by decide)), Same.up s hB, by rw [upd_same, rg_snoc i fun _ => V.non]⟩
    rintro H2 ⟨s2, oB⟩
    rw [rg_len] at oB
    refine ⟨Nat.zero_le _, fun Qa hQ => ?_⟩
    have sQ := Same.new hQ (o := .lst [])
    have d : RAd H A B Qa := ⟨hA, s1.free hB, (s1.trans s2).free hQ, ne_of_none oA hB, ne_of_none (s2 _ _ oA) hQ, ne_of_none oB hQ⟩
    have r0 : RSt H (upd H2 Qa (.lst [])) A B Qa m n [] (fun _ => none) (fun _ => none) := ⟨(s1.trans s2).trans sQ, sQ _ _ (s2 _ _ oA), sQ _ _ oB, upd_same⟩
    refine ⟨_, rfl, gs, _, rfl, SqL.of (r0.s _ _ hs), ?_⟩
    refine for_it (walk_enum (xs := rg m fun i => .int (sl i))) (fun i σ H' => ∃ v9 v10, σ = [some (.ref gu), some (.ref gf), some (.ref gs), some (.ref gt), some (.ref A), none, some (.ref B), none, some (.ref Qa), v9, v10, none, none, none] ∧ RSt H H' A B Qa m n (qs0 sl i) (sf0 sl i) (fun _ => none))
      ⟨none, none, rfl, by rw [show sf0 sl 0 = fun _ => none by funext i; exact if_neg (by omega)]; exact r0⟩ (fun i σ H' hi ⟨v1, v2, e, r⟩ => SqL.of (r.s _ _ hs)) ?_ ?_
    · rintro i x σ H' H'' hi ⟨v1, v2, rfl, r⟩ ⟨T, y1, y2, rfl, hT, rfl, e1, e2⟩
      cases e1
      obtain ⟨hi', rfl⟩ := rg_of e2
      have r' := r.same (Same.new hT (o := .tup [.int (i : Int), .int (sl i)]))
      refine ⟨_, _, rfl, .inl (.inl upd_same), rfl, _, _, rfl, _, _, rfl, rfl, ?_⟩
      refine ⟨_, rfl, _, _, rfl, rfl, _, rfl, ?_⟩
      rw [qs0_succ, sf0_succ]
      refine ite2 (fun h => ?_) (fun h => ?_)
      · have hp : 0 < sl i := by have := of_decide_eq_true h; omega
        rw [if_pos hp, if_pos hp]
        refine ⟨_, rfl, _, rfl, _, rfl, A, _, _, i, rfl, rfl, r'.a, ixN_at (by rw [rg_len]; exact hi'), ?_⟩
        have r2 := r'.setA d i (some (-1))
        refine ⟨_, rfl, .inl ⟨rfl, _, SqL.of r2.q⟩, _, rfl, Qa, _, _, rfl, rfl, r2.q, ?_, ?_⟩
        · rw [List.length_map]
          unfold qs0
          exact Nat.lt_of_le_of_lt (Nat.le_trans (List.length_filter_le _ _) (by rw [List.length_range]; exact Nat.le_trans (Nat.le_of_lt hi') hm)) (by decide)
        · exact ⟨_, _, rfl, r2.push d i⟩
      · have hp : ¬ 0 < sl i := fun z => h (decide_eq_true (by omega))
        rw [if_neg hp, if_neg hp, List.append_nil]
        exact ⟨_, _, rfl, r'⟩
    · rintro σ H3 ⟨v1, v2, rfl, r3⟩
      rw [rg_len] at r3
      have S0 : RI m n U f sl (qs0 sl m) (sf0 sl m) (fun _ => none) (fun _ => 0) := RI.start
      refine while_by (fun σ H' => ∃ (v7 v9 v10 v12 v13 : Option V) (at_ : Nat) (qs : List Nat) (sf tf : Nat → Option Int) (ρ : Nat → Nat), σ = [some (.ref gu), some (.ref gf), some (.ref gs), some (.ref gt), some (.ref A), none, some (.ref B), v7, some (.ref Qa), v9, v10, some (nv at_), v12, v13] ∧ RSt H H' A B Qa m n qs sf tf ∧
          RI m n U f sl qs sf tf ρ ∧ Xa m n f sf tf ∧ Sat n tl tf ∧ (∀ a i, a < at_ → qs[a]? = some i → ∀ j, j < n → U i j = true → tf j ≠ none) ∧ at_ ≤ qs.length) (fun σ _ => m - (intAt σ 11).toNat)
        ⟨none, v1, v2, none, none, 0, _, _, _, _, rfl, r3, S0, fun j _ z => absurd rfl z, fun j _ z => absurd rfl z, fun a i ha => absurd ha (Nat.not_lt_zero _), Nat.zero_le _⟩ ?_ (fun σ H Q Q' hm ⟨a, f1, b, f2, p, ys, f3, f4, i', j', f5, f6, k', f7, q⟩ => ⟨a, f1, b, f2, p, ys, f3, f4, i', j', f5, f6, k', f7, hm _ _ q⟩)
      rintro σ H' ⟨v7, v9, v10, v12, v13, at_, qs, sf, tf, ρ, rfl, r, I, X, St, Pr, hat⟩
      refine ⟨_, rfl, _, rfl, Qa, _, rfl, .inl (SqL.of r.q), _, _, rfl, rfl, _, rfl, ?_⟩
      rw [List.length_map]
      by_cases hlt : at_ < qs.length
      · rw [decide_eq_true (show ((at_ : Int) < (qs.length : Int)) by omega)]
        refine iteT ?_
        have es : qs[at_]? = some qs[at_] := List.getElem?_eq_getElem hlt
        obtain ⟨s, hs'⟩ : ∃ s, qs[at_] = s := ⟨_, rfl⟩
        rw [hs'] at es
        have hsq : s ∈ qs := List.mem_of_getElem? es
        obtain ⟨hsm, hss⟩ := (I.mem s).mp hsq
        have hql := I.len
        have es' : (qs.map nv)[at_]? = some (nv s) := by rw [List.getElem?_map, es]; rfl
        refine ⟨_, rfl, _, rfl, Qa, _, _, _, rfl, rfl, SqL.of r.q, atI_nat es', ?_⟩
        refine ⟨_, rfl, _, _, rfl, rfl, ?_⟩
        refine ⟨_, rfl, _, rfl, gu, _, _, _, rfl, rfl, SqL.of (r.s _ _ hu.o), atR _ hsm, ru s, _, rfl, SqL.of (r.s _ _ (hu.r s hsm)), ?_⟩
        refine for_it (walk_enum (xs := rg n fun j => .bl (U s j))) (fun t σ H' => ∃ (v7 v12 v13 : Option V) (qs' : List Nat) (sf tf : Nat → Option Int) (ρ : Nat → Nat), σ = [some (.ref gu), some (.ref gf), some (.ref gs), some (.ref gt), some (.ref A), none, some (.ref B), v7, some (.ref Qa), some (nv s), v10, some (.int ((at_ : Int) + 1)), v12, v13] ∧ RSt H H' A B Qa m n qs' sf tf ∧
            RI m n U f sl qs' sf tf ρ ∧ Xa m n f sf tf ∧ Sat n tl tf ∧ (∀ a i, a < at_ → qs'[a]? = some i → ∀ j, j < n → U i j = true → tf j ≠ none) ∧ qs'[at_]? = some s ∧ (∀ j, j < t → U s j = true → tf j ≠ none) ∧ at_ < qs'.length)
          ⟨v7, v12, v13, qs, sf, tf, ρ, rfl, r, I, X, St, Pr, es, fun j hj => absurd hj (Nat.not_lt_zero _), hlt⟩ (fun i σ H' hi ⟨_, _, _, _, _, _, _, _, r, _⟩ => SqL.of (r.s _ _ (hu.r s hsm))) ?_ ?_
        · rintro t x σ H' H'' hi ⟨v7, v12, v13, qs, sf, tf, ρ, rfl, r, I, X, St, Pr, es, Cu, hlt⟩ ⟨T, y1, y2, rfl, hT, rfl, e1, e2⟩
          cases e1
          obtain ⟨ht', rfl⟩ := rg_of e2
          have r' := r.same (Same.new hT (o := .tup [.int (t : Int), .bl (U s t)]))
          refine ⟨_, _, rfl, .inl (.inl upd_same), rfl, _, _, rfl, _, _, rfl, rfl, ?_⟩
          refine ⟨_, rfl, _, rfl, ?_⟩
          cases hU : U s t with
          | false =>
            rw [hU] at r'
            refine ⟨_, _, _, qs, sf, tf, ρ, rfl, r', I, X, St, Pr, es, fun j hj q => ?_, hlt⟩
            by_cases e : j = t
            · rw [e, hU] at q; cases q
            · exact Cu j (by omega) q
          | true =>
            rw [hU] at r'
            refine ⟨_, rfl, _, rfl, B, _, _, _, rfl, rfl, SqL.of r'.b, atR _ ht', rfl, _, rfl, ?_⟩
            cases hO : tf t with
            | some z =>
              refine ⟨_, _, _, qs, sf, tf, ρ, rfl, r', I, X, St, Pr, es, fun j hj q => ?_, hlt⟩
              by_cases e : j = t
              · rw [e, hO]; simp
              · exact Cu j (by omega) q
            | none =>
              have hsq : s ∈ qs := List.mem_of_getElem? es
              refine ⟨_, rfl, _, rfl, _, rfl, B, _, _, t, rfl, rfl, r'.b, ixN_at (by rw [rg_len]; exact ht'), ?_⟩
              have r2 := r'.setB d t (some (s : Int))
              have I2 := I.setT hO hsq hU
              have tf2 : ∀ {j}, tf j ≠ none → oset tf t (some (s : Int)) j ≠ none := fun {j} h => by
                unfold oset
                split
                · simp
                · exact h
              refine ⟨_, rfl, _, rfl, gt, _, _, _, rfl, rfl, SqL.of (r2.s _ _ ht), atR _ ht', _, _, rfl, rfl, _, rfl, ?_⟩
              refine ite2 (fun h => ?_) (fun h => ?_)
              · have hp : 0 < tl t := by have := of_decide_eq_true h; omega
                refine ⟨_, rfl, _, rfl, _, rfl, by show 3 ≤ sizeLine; decide, fun T2 hT2 => ?_⟩
                have s5 := Same.new hT2 (o := .tup [.ref A, .ref B, .int (t : Int)])
                exact k _ T2 A B sf (oset tf t (some (s : Int))) ρ _ (r2.s.trans s5) (r2.s.free hT2) upd_same (s5 _ _ r2.a) (s5 _ _ r2.b) d.a d.b d.ab I2.toFound (.inl ⟨t, ht', rfl, by rw [oset_same]; simp, hp⟩)
              · have hp : tl t ≤ 0 := by
                  refine Classical.byContradiction fun z => h (decide_eq_true ?_)
                  show tl t > 0
                  omega
                refine ⟨_, rfl, gu, _, rfl, .inl (SqL.of (r2.s _ _ hu.o)), ?_⟩
                rw [rg_len]
                refine ⟨_, rfl, by omega, by omega, ?_⟩
                refine for_it (walk_rg (n := m)) (fun o σ H' => ∃ (v13 : Option V) (qs' : List Nat) (sf : Nat → Option Int) (ρ : Nat → Nat), σ = [some (.ref gu), some (.ref gf), some (.ref gs), some (.ref gt), some (.ref A), none, some (.ref B), some (.int (t : Int)), some (.ref Qa), some (nv s), v10, some (.int ((at_ : Int) + 1)), some (.bl true), v13] ∧ RSt H H' A B Qa m n qs' sf (oset tf t (some (s : Int))) ∧
                    RI m n U f sl qs' sf (oset tf t (some (s : Int))) ρ ∧ Xp m n f sf (oset tf t (some (s : Int))) t o ∧ (∀ a i, a < at_ → qs'[a]? = some i → ∀ j, j < n → U i j = true → oset tf t (some (s : Int)) j ≠ none) ∧ qs'[at_]? = some s ∧ at_ < qs'.length)
                  ⟨v13, qs, sf, ρ, rfl, r2, I2, fun j hj q i hi q2 => ?_, fun a i ha e j hj q => tf2 (Pr a i ha e j hj q), es, hlt⟩ (fun _ _ _ _ _ => trivial) ?_ ?_
                · by_cases e : j = t
                  · exact .inl ⟨e, Nat.zero_le _⟩
                  · rw [oset_ne _ _ e] at q
                    exact .inr (X j hj q i hi q2)
                · rintro o x σ H' H'' ho ⟨v13, qs, sf, ρ, rfl, r, I, X, Pr, es, hlt⟩ ⟨rfl, rfl⟩
                  refine ⟨_, rfl, _, rfl, gf, _, _, _, rfl, rfl, SqL.of (r.s _ _ hf.o), atR _ ho, _, rfl, _, _, _, _, rfl, rfl, SqL.of (r.s _ _ (hf.r o ho)), atR _ ht', _, _, rfl, rfl, _, rfl, ?_⟩
                  have skip : (sf o ≠ none ∨ ¬ 0 < f o t) → Xp m n f sf (oset tf t (some (s : Int))) t (o + 1) := fun hq j hj q i hi q2 => by
                    rcases X j hj q i hi q2 with ⟨e1, e2⟩ | q3
                    · by_cases e : i = o
                      · subst e
                        subst e1
                        rcases hq with hq | hq
                        · exact .inr hq
                        · exact absurd q2 hq
                      · exact .inl ⟨e1, by omega⟩
                    · exact .inr q3
                  by_cases hfo : 0 < f o t
                  · rw [decide_eq_true (show f o t > 0 by omega)]
                    refine ⟨_, rfl, _, rfl, A, _, _, _, rfl, rfl, SqL.of r.a, atR _ ho, rfl, _, rfl, ?_⟩
                    cases hso : sf o with
                    | some z => exact ⟨_, qs, sf, ρ, rfl, r, I, skip (.inl (by rw [hso]; simp)), Pr, es, hlt⟩
                    | none =>
                      refine ⟨_, rfl, _, rfl, _, rfl, A, _, _, o, rfl, rfl, r.a, ixN_at (by rw [rg_len]; exact ho), ?_⟩
                      have r3 := r.setA d o (some (t : Int))
                      refine ⟨_, rfl, .inl ⟨rfl, _, SqL.of r3.q⟩, _, rfl, Qa, _, _, rfl, rfl, r3.q, ?_, ?_⟩
                      · rw [List.length_map]
                        exact Nat.lt_of_le_of_lt (Nat.le_trans I.len hm) (by decide)
                      · refine ⟨_, qs ++ [o], oset sf o (some (t : Int)), _, rfl, r3.push d o, I.setS ht' ho hso hfo (oset_same _ _ _), fun j hj q i hi q2 => ?_, fun a i ha e j hj q => ?_, by rw [List.getElem?_append_left hlt]; exact es, by rw [List.length_append]; omega⟩
                        · by_cases e : i = o
                          · subst e
                            right
                            rw [oset_same]; simp
                          · rcases X j hj q i hi q2 with ⟨e1, e2⟩ | q3
                            · exact .inl ⟨e1, by omega⟩
                            · right
                              rw [oset_ne _ _ e]; exact q3
                        · rw [List.getElem?_append_left (by omega)] at e
                          exact Pr a i ha e j hj q
                  · rw [decide_eq_false (show ¬ f o t > 0 by omega)]
                    exact ⟨_, qs, sf, ρ, rfl, r, I, skip (.inr hfo), Pr, es, hlt⟩
                · rintro σ H' ⟨v13, qs, sf, ρ, rfl, r, I, X, Pr, es, hlt⟩
                  refine ⟨_, _, _, qs, sf, _, ρ, rfl, r, I, fun j hj q i hi q2 => ?_, fun j hj q => ?_, Pr, es, fun j hj q => ?_, hlt⟩
                  · rcases X j hj q i hi q2 with ⟨e1, e2⟩ | q3
                    · omega
                    · exact q3
                  · by_cases e : j = t
                    · rw [e]; exact hp
                    · rw [oset_ne _ _ e] at q
                      exact St j hj q
                  · by_cases e : j = t
                    · rw [e, oset_same]; simp
                    · exact tf2 (Cu j (by omega) q)
        · rintro σ H' ⟨v7, v12, v13, qs, sf, tf, ρ, rfl, r, I, X, St, Pr, es, Cu, hlt⟩
          rw [rg_len] at Cu
          refine ⟨⟨_, _, _, _, _, at_ + 1, qs, sf, tf, ρ, rfl, r, I, X, St, fun a i ha e j hj q => ?_, hlt⟩, ?_⟩
          · by_cases e2 : a = at_
            · rw [e2, es] at e
              cases e
              exact Cu j hj q
            · exact Pr a i (by omega) e j hj q
          · have hq := I.len
            show m - (((at_ : Int) + 1)).toNat < m - ((at_ : Nat) : Int).toNat
            omega
      · rw [decide_eq_false (show ¬ ((at_ : Int) < (qs.length : Int)) by omega)]
        refine iteF ?_
        refine ⟨_, rfl, _, rfl, by show 3 ≤ sizeLine; decide, fun T2 hT2 => ?_⟩
        have s5 := Same.new hT2 (o := .tup [.ref A, .ref B, .non])
        refine k _ T2 A B sf tf ρ _ (r.s.trans s5) (r.s.free hT2) upd_same (s5 _ _ r.a) (s5 _ _ r.b) d.a d.b d.ab I.toFound (.inr ⟨rfl, St, X, fun i hi q j hj q2 => ?_⟩)
        obtain ⟨a, ha, e⟩ := List.mem_iff_getElem.mp ((I.mem i).mpr ⟨hi, q⟩)
        exact Pr a i (by omega) (by rw [List.getElem?_eq_getElem ha, e]) j hj q2
end
end K78
end
section
set_option Elab.async false
set_option linter.all false
set_option maxRecDepth 100000
set_option maxHeartbeats 4000000
namespace K78
open PySem PySem.Spec PyProof.Rows L2 He
section
variable {P : Program} {w : World} {K : PySem.W.Frag} {mg : Str → Option Value} {base : Heap}
def sp_path_to (K : PySem.W.Frag) : Sp := fun vs H Q _ => ∃ (goal : Nat) (A B : Addr) (m n : Nat) (U : Nat → Nat → Bool) (f : Nat → Nat → Int) (sl : Nat → Int) (sf tf : Nat → Option Int) (ρ : Nat → Nat), vs = [.int (goal : Int), .ref A, .ref B] ∧ RowAt H A m sf ∧ RowAt H B n tf ∧ m ≤ 9 ∧ Found m n U f sl sf tf ρ ∧ goal < n ∧ tf goal ≠ none ∧
  ∀ H' T G L g l st, Same H H' → H T = none → H' T = some (.tup [.ref G, .ref L]) → H G = none → H L = none → PairsAt H' G g → PairsAt H' L l → Path m n U f sl goal st g l → Q (.ref T) H'
theorem ok_path_to (E : TX K mg) : FnOk P w K mg base CX0 1 (a_path_to K) (fdOf K (a_path_to K)) P_path_to (sp_path_to K) := by
  refine (f_path_to E).ok sc_path_to (fun vs H Q E' h => ?_) (fun cdv A outer s H vs Q E' hr h => ?_)
  · obtain ⟨_, _, _, _, _, _, _, _, _, _, _, rfl, _⟩ := h; rfl
  · obtain ⟨goal, A, B, m, n, U, f, sl, sf, tf, ρ, rfl, hA, hB, hm, F, hg, htg, k⟩ := h
    refine ⟨_, PSs.nox (pss_cons (ps_set (i := 3) sc_path_to.nd rfl (Or.inl rfl) (pe_lst pa_nil))
    (pss_cons (ps_set (i := 4) sc_path_to.nd rfl (Or.inl rfl) (pe_lst pa_nil))
    (pss_cons (ps_set (i := 5) sc_path_to.nd rfl (Or.inl rfl) (pv 0))
    (pss_cons (ps_while PassesOwn.never (pt_cmpR op_ge (pv 5) pe_int (nomark _))
    (pss_cons (ps_set (i := 6) sc_path_to.nd rfl (Or.inl rfl) (pe_ix ix_list (pv 2) (pv 5) (fun _ _ => rfl)))
    (pss_cons (ps_expr (pe_bm PySem.F.plainAttrs_list PySem.F.slot_list_append PySem.F.type_list_append mt_append (pv 3) (pa_cons (pe_tup (pa_cons (pv 6) (pa_cons (pv 5) pa_nil))) pa_nil)))
    (pss_cons (ps_set (i := 5) sc_path_to.nd rfl (Or.inl rfl) (pe_ix ix_list (pv 1) (pv 6) (fun _ _ => rfl)))
    (pss_one (ps_if (pt_cmpR op_ge (pv 5) pe_int (nomark _)) (pss_one (ps_expr (pe_bm PySem.F.plainAttrs_list PySem.F.slot_list_append PySem.F.type_list_append mt_append (pv 4) (pa_cons (pe_tup (pa_cons (pv 6) (pa_cons (pv 5) pa_nil))) pa_nil)))) pss_nil))))))
    (pss_one (ps_ret (pe_tup (pa_cons (pv 3) (pa_cons (pv 4) pa_nil))))))))), ?_⟩
    refine ⟨Nat.zero_le _, fun G hG => ?_⟩
    refine ⟨Nat.zero_le _, fun L hL => ?_⟩
    have hL0 : H L = none := (Same.new hG).free hL
    have nGL : G ≠ L := ne_of_none upd_same hL
    refine ⟨_, rfl, ?_⟩
    refine while_by (fun σ H' => ∃ (v6 : Option V) (tv : Int) (g l : List Pr), σ = [some (.int (goal : Int)), some (.ref A), some (.ref B), some (.ref G), some (.ref L), some (.int tv), v6] ∧ Same H H' ∧ PairsAt H' G g ∧ PairsAt H' L l ∧ ((∃ t : Nat, tv = (t : Int) ∧ Back m n U f sf tf ρ goal g l t) ∨ (tv = -1 ∧ ∃ st, Path m n U f sl goal st g l)))
      (fun σ _ => if intAt σ 5 < 0 then 0 else match tf (intAt σ 5).toNat with
        | some s => ρ s.toNat + 1
        | none => 0)
      ⟨none, _, [], [], rfl, Same.new0 (Same.new hG) hL, ⟨[], (upd_ne nGL).trans upd_same, P2.nil _⟩, ⟨[], upd_same, P2.nil _⟩, .inl ⟨goal, rfl, Back.zero hg htg⟩⟩ ?_ (fun σ H Q Q' hm ⟨a, f1, i', j', f5, f6, k', f7, q⟩ => ⟨a, f1, i', j', f5, f6, k', f7, hm _ _ q⟩)
    rintro σ H' ⟨v6, tv, g, l, rfl, s, ⟨tg, oG, pG⟩, ⟨tl', oL, pL⟩, hst⟩
    refine ⟨_, rfl, _, _, rfl, rfl, _, rfl, ?_⟩
    rcases hst with ⟨t, rfl, hb⟩ | ⟨rfl, st, hp⟩
    · rw [decide_eq_true (show (t : Int) ≥ 0 by omega)]
      refine iteT ?_
      obtain ⟨u, hu, htu, hU, hsu⟩ := hb.src F
      obtain ⟨hlen1, hlen2⟩ := hb.len
      refine ⟨_, rfl, _, rfl, B, _, _, V.int (u : Int), rfl, rfl, SqL.of (s _ _ hB), (atR (fun k => ov (tf k)) hb.tn).trans (by rw [htu]; rfl), ?_⟩
      refine ⟨_, rfl, .inl ⟨rfl, _, SqL.of oG⟩, _, rfl, _, rfl, by show 2 ≤ sizeLine; decide, fun T hT => ?_⟩
      have nGT : G ≠ T := ne_of_none oG hT
      refine ⟨G, _, _, rfl, rfl, (upd_ne nGT).trans oG, ?_, ?_⟩
      · rw [List.length_map, pG.1]
        exact Nat.lt_of_le_of_lt (show g.length ≤ 9 by omega) (by decide)
      obtain ⟨z1, z2, z3⟩ := pairs_step (q := (u, t)) s hG oG pG hT
      have kp : ∀ {a : Addr} {xs : List V}, H' a = some (.tup xs) → upd (upd H' T (.tup [.int (u : Int), .int (t : Int)])) G (.lst (tg.map V.ref ++ [.ref T])) a = some (.tup xs) := fun e => (upd_ne (ne_of e oG (by intro z; cases z))).trans ((upd_ne (ne_of_none e hT)).trans e)
      have oL1 : upd (upd H' T (.tup [.int (u : Int), .int (t : Int)])) G (.lst (tg.map V.ref ++ [.ref T])) L = some (.lst (tl'.map V.ref)) := (upd_ne nGL.symm).trans ((upd_ne (ne_of_none oL hT)).trans oL)
      have pL1 := pL.map (fun a i j e => kp e)
      obtain ⟨H1, eH⟩ : ∃ H1, upd (upd H' T (.tup [.int (u : Int), .int (t : Int)])) G (.lst (tg.map V.ref ++ [.ref T])) = H1 := ⟨_, rfl⟩
      rw [eH] at z1 z2 z3 oL1 pL1
      rw [show upd (upd H' T (.tup [.int (u : Nat), .int (t : Nat)])) G (.lst (tg.map V.ref ++ [.ref T])) = H1 from eH]
      rcases hsu with hsu | ⟨t', hsu⟩
      · refine ⟨_, rfl, _, rfl, A, _, _, V.int (-1), rfl, rfl, SqL.of (z1 _ _ hA), (atR (fun k => ov (sf k)) hu).trans (by rw [hsu]; rfl), ?_⟩
        refine ⟨_, rfl, _, _, rfl, rfl, _, rfl, ?_⟩
        refine ⟨⟨_, -1, g ++ [(u, t)], l, rfl, z1, ⟨_, z2, z3⟩, ⟨_, oL1, pL1⟩, .inr ⟨rfl, u, hb.done F hg hu htu hU hsu⟩⟩, ?_⟩
        show (if (-1 : Int) < 0 then 0 else _) < (if ((t : Nat) : Int) < 0 then 0 else match tf ((t : Nat) : Int).toNat with | some s => ρ s.toNat + 1 | none => 0)
        rw [if_pos (by decide), if_neg (by omega), Int.toNat_natCast, htu]
        exact Nat.succ_pos _
      · have hB2 := hb.step F hu htu hU hsu
        refine ⟨_, rfl, _, rfl, A, _, _, V.int (t' : Int), rfl, rfl, SqL.of (z1 _ _ hA), (atR (fun k => ov (sf k)) hu).trans (by rw [hsu]; rfl), ?_⟩
        refine ⟨_, rfl, _, _, rfl, rfl, _, rfl, ?_⟩
        rw [decide_eq_true (show ((t' : Nat) : Int) ≥ 0 by omega)]
        refine ⟨_, rfl, .inl ⟨rfl, _, SqL.of oL1⟩, _, rfl, _, rfl, by show 2 ≤ sizeLine; decide, fun T2 hT2 => ?_⟩
        refine ⟨L, _, _, rfl, rfl, (upd_ne (ne_of_none oL1 hT2)).trans oL1, ?_, ?_⟩
        · rw [List.length_map, pL.1]
          exact Nat.lt_of_le_of_lt (show l.length ≤ 9 by omega) (by decide)
        obtain ⟨y1, y2, y3⟩ := pairs_step (q := (u, t')) z1 hL0 oL1 pL1 hT2
        refine ⟨⟨_, (t' : Int), g ++ [(u, t)], l ++ [(u, t')], rfl, y1, ⟨_, (upd_ne nGL).trans ((upd_ne (ne_of_none z2 hT2)).trans z2), z3.map fun a i j e => (upd_ne (ne_of e oL1 (by intro z; cases z))).trans ((upd_ne (ne_of_none e hT2)).trans e)⟩, ⟨_, y2, y3⟩, .inl ⟨t', rfl, hB2⟩⟩, ?_⟩
        show (if ((t' : Nat) : Int) < 0 then 0 else match tf ((t' : Nat) : Int).toNat with | some s => ρ s.toNat + 1 | none => 0) < (if ((t : Nat) : Int) < 0 then 0 else match tf ((t : Nat) : Int).toNat with | some s => ρ s.toNat + 1 | none => 0)
        rw [if_neg (by omega), if_neg (by omega), Int.toNat_natCast, Int.toNat_natCast, htu]
        rcases F.c u hu _ hsu with q | ⟨j, _, e, _, i', h4, h5⟩
        · omega
        · have : t' = j := by omega
          subst this
          rw [h4]
          show ρ ((i' : Nat) : Int).toNat + 1 < ρ ((u : Nat) : Int).toNat + 1
          rw [Int.toNat_natCast, Int.toNat_natCast]
          omega
    · refine iteF ?_
      refine ⟨_, rfl, _, rfl, by show 2 ≤ sizeLine; decide, fun T hT => ?_⟩
      have s5 := Same.new hT (o := .tup [.ref G, .ref L])
      exact k _ T G L g l st (s.trans s5) (s.free hT) upd_same hG hL0 ⟨_, s5 _ _ oG, pG.same s5⟩ ⟨_, s5 _ _ oL, pL.same s5⟩ hp
theorem atI_m1 {xs : List V} {v : V} (h : xs[xs.length - 1]? = some v) : atI xs (-1) = some v := by
  have hl : 0 < xs.length := by
    have := (List.getElem?_eq_some_iff.mp h).1
    omega
  have e : ixN xs.length (-1) = some (xs.length - 1) := by
    unfold ixN
    rw [if_neg (by decide), if_pos (by omega)]
    congr 1
    omega
  unfold atI
  rw [e]
  exact h
/-! ### a flow in the heap -/
structure FlAt (H : Hp) (gf gs gt : Addr) (r : Nat → Addr) (m n : Nat) (f : Nat → Nat → Int) (sl tl : Nat → Int) : Prop where
  f : RowsAt H gf m n (fun i j => .int (f i j)) r
  s : IntsAt H gs m sl
  t : IntsAt H gt n tl
structure FlAd (gf gs gt : Addr) (r : Nat → Addr) (m : Nat) : Prop where
  st : gs ≠ gt
  fs : gf ≠ gs
  ft : gf ≠ gt
  rf : ∀ i, i < m → r i ≠ gf
  rs : ∀ i, i < m → r i ≠ gs
  rt : ∀ i, i < m → r i ≠ gt
  inj : ∀ i j, i < m → j < m → r i = r j → i = j
def SF (gs gt : Addr) (r : Nat → Addr) (m : Nat) (H H' : Hp) : Prop := ∀ b o, H b = some o → b ≠ gs → b ≠ gt → (∀ i, i < m → b ≠ r i) → H' b = some o
theorem SF.refl (gs gt : Addr) (r : Nat → Addr) (m : Nat) (H : Hp) : SF gs gt r m H H := fun _ _ e _ _ _ => e
theorem SF.up {gs gt : Addr} {r : Nat → Addr} {m : Nat} {H H' : Hp} {a : Addr} {o : HO} (s : SF gs gt r m H H') (h : a = gs ∨ a = gt ∨ ∃ i, i < m ∧ a = r i) : SF gs gt r m H (upd H' a o) := fun b u e h1 h2 h3 => by
  have : b ≠ a := by
    rcases h with h | h | ⟨i, hi, h⟩ <;> rw [h]
    · exact h1
    · exact h2
    · exact h3 i hi
  rw [upd_ne this]
  exact s b u e h1 h2 h3
theorem FlAt.same {H H' : Hp} {gf gs gt : Addr} {r : Nat → Addr} {m n : Nat} {f : Nat → Nat → Int} {sl tl : Nat → Int} (h : FlAt H gf gs gt r m n f sl tl) (s : Same H H') : FlAt H' gf gs gt r m n f sl tl := ⟨h.f.same s, s _ _ h.s, s _ _ h.t⟩
theorem FlAt.bump {H : Hp} {gf gs gt : Addr} {r : Nat → Addr} {m n : Nat} {f : Nat → Nat → Int} {sl tl : Nat → Int} (d : FlAd gf gs gt r m) (h : FlAt H gf gs gt r m n f sl tl) {i j : Nat} (hi : i < m) (hj : j < n) (a : Int) :
    FlAt (upd H (r i) (.lst ((rg n fun j => .int (f i j)).set j (.int (f i j + a))))) gf gs gt r m n (K78.bump f i j a) sl tl := by
  refine ⟨⟨(upd_ne (d.rf i hi).symm).trans h.f.o, fun k hk => ?_⟩, (upd_ne (d.rs i hi).symm).trans h.s, (upd_ne (d.rt i hi).symm).trans h.t⟩
  by_cases e : k = i
  · subst e
    rw [upd_same, rg_set]
    congr 2
    refine rg_congr fun l _ => ?_
    unfold K78.bump
    by_cases e : l = j
    · rw [if_pos e, if_pos ⟨rfl, e⟩, e]
    · rw [if_neg e, if_neg fun z => e z.2]
  · rw [upd_ne fun z => e (d.inj k i hk hi z), h.f.r k hk]
    congr 2
    refine rg_congr fun l _ => ?_
    unfold K78.bump
    rw [if_neg fun z => e z.1]
theorem FlAt.setS {H : Hp} {gf gs gt : Addr} {r : Nat → Addr} {m n : Nat} {f : Nat → Nat → Int} {sl tl : Nat → Int} (d : FlAd gf gs gt r m) (h : FlAt H gf gs gt r m n f sl tl) (i : Nat) (v : Int) :
    FlAt (upd H gs (.lst ((rg m fun i => .int (sl i)).set i (.int v)))) gf gs gt r m n f (fset sl i v) tl := by
  refine ⟨⟨(upd_ne d.fs).trans h.f.o, fun k hk => (upd_ne (d.rs k hk)).trans (h.f.r k hk)⟩, ?_, (upd_ne d.st.symm).trans h.t⟩
  show upd _ _ _ _ = _
  rw [upd_same, rg_set]
  congr 2
  exact rg_congr fun l _ => by unfold fset; split <;> rfl
theorem FlAt.setT {H : Hp} {gf gs gt : Addr} {r : Nat → Addr} {m n : Nat} {f : Nat → Nat → Int} {sl tl : Nat → Int} (d : FlAd gf gs gt r m) (h : FlAt H gf gs gt r m n f sl tl) (i : Nat) (v : Int) :
    FlAt (upd H gt (.lst ((rg n fun i => .int (tl i)).set i (.int v)))) gf gs gt r m n f sl (fset tl i v) := by
  refine ⟨⟨(upd_ne d.ft).trans h.f.o, fun k hk => (upd_ne (d.rt k hk)).trans (h.f.r k hk)⟩, (upd_ne d.st).trans h.s, ?_⟩
  show upd _ _ _ _ = _
  rw [upd_same, rg_set]
  congr 2
  exact rg_congr fun l _ => by unfold fset; split <;> rfl
def sp_augment (K : PySem.W.Frag) : Sp := fun vs H Q _ => ∃ (gf gs gt G L : Addr) (r : Nat → Addr) (m n : Nat) (U : Nat → Nat → Bool) (f : Nat → Nat → Int) (sl tl : Nat → Int) (goal st : Nat) (g l : List Pr), vs = [.ref gf, .ref gs, .ref gt, .ref G, .ref L] ∧
  FlAt H gf gs gt r m n f sl tl ∧ FlAd gf gs gt r m ∧ PairsAt H G g ∧ PairsAt H L l ∧ (G ≠ gs ∧ G ≠ gt ∧ ∀ i, i < m → G ≠ r i) ∧ (L ≠ gs ∧ L ≠ gt ∧ ∀ i, i < m → L ≠ r i) ∧ Path m n U f sl goal st g l ∧ 0 < tl goal ∧
  ∀ H' a, SF gs gt r m H H' → FlAt H' gf gs gt r m n (augd f g l a) (fset sl st (sl st - a)) (fset tl goal (tl goal - a)) → 0 < a → a ≤ sl st → a ≤ tl goal → (∀ q ∈ l, a ≤ f q.1 q.2) → Q .non H'
theorem ok_augment (E : TX K mg) : FnOk P w K mg base CX0 1 (a_augment K) (fdOf K (a_augment K)) P_augment (sp_augment K) := by
  refine (f_augment E).ok sc_augment (fun vs H Q E' h => ?_) (fun cdv A outer s H vs Q E' hr h => ?_)
  · obtain ⟨_, _, _, _, _, _, _, _, _, _, _, _, _, _, _, _, rfl, _⟩ := h; rfl
  · obtain ⟨gf, gs, gt, G, L, r, m, n, U, f, sl, tl, goal, st, g, l, rfl, hf, d, ⟨tg, oG, pG⟩, ⟨tl', oL, pL⟩, ⟨G1, G2, G3⟩, ⟨L1, L2, L3⟩, hp, htl, k⟩ := h
    refine ⟨_, PSs.nox (pss_cons (ps_set (i := 5) sc_augment.nd rfl (Or.inl rfl) (pe_ix ix_tup (pe_ix ix_list (pv 3) (pe_un un_neg pe_int) (fun _ _ => rfl)) pe_int (fun _ _ => rfl)))
    (pss_cons (ps_set (i := 6) sc_augment.nd rfl (Or.inl rfl) (pe_ix ix_tup (pe_ix ix_list (pv 3) pe_int (fun _ _ => rfl)) pe_int (fun _ _ => rfl)))
    (pss_cons (ps_set (i := 7) sc_augment.nd rfl (Or.inl rfl) (pe_ix ix_list (pv 1) (pv 5) (fun _ _ => rfl)))
    (pss_cons (ps_if (pt_cmpR op_lt (pe_ix ix_list (pv 2) (pv 6) (fun _ _ => rfl)) (pv 7) (nomark _)) (pss_one (ps_set (i := 7) sc_augment.nd rfl (Or.inl rfl) (pe_ix ix_list (pv 2) (pv 6) (fun _ _ => rfl)))) pss_nil)
    (pss_cons (ps_for PassesOwn.never rfl (pi_list (pv 4)) (pg_tup rfl (pgs_cons (pg_name (i := 8) sc_augment.nd rfl (Or.inl rfl)) (pgs_cons (pg_name (i := 9) sc_augment.nd rfl (Or.inl rfl)) pgs_nil)))
    (pss_one (ps_if (pt_cmpR op_lt (pe_ix ix_list (pe_ix ix_list (pv 0) (pv 8) (fun _ _ => rfl)) (pv 9) (fun _ _ => rfl)) (pv 7) (nomark _)) (pss_one (ps_set (i := 7) sc_augment.nd rfl (Or.inl rfl) (pe_ix ix_list (pe_ix ix_list (pv 0) (pv 8) (fun _ _ => rfl)) (pv 9) (fun _ _ => rfl)))) pss_nil)))
    (pss_cons (ps_for PassesOwn.never rfl (pi_list (pv 3)) (pg_tup rfl (pgs_cons (pg_name (i := 8) sc_augment.nd rfl (Or.inl rfl)) (pgs_cons (pg_name (i := 9) sc_augment.nd rfl (Or.inl rfl)) pgs_nil)))
    (pss_one (ps_augS (pe_ix ix_list (pv 0) (pv 8) (fun _ _ => rfl)) (pv 9) get_list (pv 7) ip_add set_listN)))
    (pss_cons (ps_for PassesOwn.never rfl (pi_list (pv 4)) (pg_tup rfl (pgs_cons (pg_name (i := 8) sc_augment.nd rfl (Or.inl rfl)) (pgs_cons (pg_name (i := 9) sc_augment.nd rfl (Or.inl rfl)) pgs_nil)))
    (pss_one (ps_augS (pe_ix ix_list (pv 0) (pv 8) (fun _ _ => rfl)) (pv 9) get_list (pv 7) ip_sub set_listN)))
    (pss_cons (ps_augS (pv 1) (pv 5) get_list (pv 7) ip_sub set_listN)
    (pss_one (ps_augS (pv 2) (pv 6) get_list (pv 7) ip_sub set_listN)))))))))), ?_⟩
    obtain ⟨q0, hq0, eq0⟩ := hp.hd
    obtain ⟨q1, hq1, eq1⟩ := hp.ls
    have gl : 0 < g.length := by
      cases g with
      | nil => cases hq0
      | cons _ _ => exact Nat.succ_pos _
    have e0 : g[0]? = some q0 := by rw [← List.head?_eq_getElem?]; exact hq0
    have e1 : g[g.length - 1]? = some q1 := by rw [← List.getLast?_eq_getElem?]; exact hq1
    obtain ⟨t0, et0, ht0⟩ := pG.at_ e0
    obtain ⟨t1, et1, ht1⟩ := pG.at_ e1
    have em0 : atI (tg.map V.ref) 0 = some (V.ref t0) := show atI (tg.map V.ref) ((0 : Nat) : Int) = _ from atI_nat (by rw [List.getElem?_map, et0]; rfl)
    have em1 : atI (tg.map V.ref) (-1) = some (V.ref t1) := atI_m1 (by rw [List.length_map, pG.1, List.getElem?_map, et1]; rfl)
    refine ⟨_, rfl, _, rfl, G, _, _, _, rfl, rfl, SqL.of oG, em1, _, _, _, _, rfl, rfl, t2_at ht1, rfl, ?_⟩
    refine ⟨_, rfl, G, _, _, _, rfl, rfl, SqL.of oG, em0, _, _, _, _, rfl, rfl, t2_at ht0, rfl, ?_⟩
    rw [eq0, eq1]
    refine ⟨_, rfl, _, rfl, gs, _, _, _, rfl, rfl, SqL.of hf.s, atR _ hp.sm, ?_⟩
    refine ⟨_, rfl, _, rfl, gt, _, _, _, rfl, rfl, SqL.of hf.t, atR _ hp.gn, _, rfl, _, _, rfl, rfl, _, rfl, ?_⟩
    have hsp := hp.sp
    refine ifs_go (fun σ H' => ∃ a, σ = [some (.ref gf), some (.ref gs), some (.ref gt), some (.ref G), some (.ref L), some (.int (st : Int)), some (.int (goal : Int)), some (.int a), none, none] ∧ H = H' ∧ 0 < a ∧ a ≤ sl st ∧ a ≤ tl goal)
      (fun h rest => ⟨_, rfl, _, rfl, gt, _, _, _, rfl, rfl, SqL.of hf.t, atR _ hp.gn, rest _ _ ⟨tl goal, rfl, rfl, htl, by have := of_decide_eq_true h; omega, Int.le_refl _⟩⟩)
      (fun h rest => rest _ _ ⟨sl st, rfl, rfl, hsp, Int.le_refl _, by have := of_decide_eq_false h; omega⟩) ?_
    rintro σ H' ⟨a, rfl, rfl, ha, has, hat⟩
    refine ⟨_, rfl, L, rfl, ⟨_, SqL.of oL⟩, for_list (fun k σ H' => ∃ v8 v9 a, σ = [some (.ref gf), some (.ref gs), some (.ref gt), some (.ref G), some (.ref L), some (.int (st : Int)), some (.int (goal : Int)), some (.int a), v8, v9] ∧ H = H' ∧ 0 < a ∧ a ≤ sl st ∧ a ≤ tl goal ∧ ∀ q ∈ l.take k, a ≤ f q.1 q.2)
      ⟨none, none, a, rfl, rfl, ha, has, hat, fun q hq => by cases hq⟩ (fun i σ H' _ ⟨_, _, _, _, e, _⟩ => by rw [← e]; exact SqL.of oL) ?_ ?_⟩
    · rintro i x σ H' hx ⟨v8, v9, a, rfl, rfl, ha, has, hat, hal⟩
      obtain ⟨t, et, rfl⟩ := map_ref_at hx
      obtain ⟨q, eq, hq⟩ := pL.of et
      obtain ⟨w1, w2, w3⟩ := hp.l q (List.mem_of_getElem? eq)
      refine ⟨t, _, rfl, t2_at hq, rfl, _, _, rfl, _, _, rfl, rfl, ?_⟩
      refine ⟨_, rfl, _, rfl, gf, _, _, _, rfl, rfl, SqL.of hf.f.o, atR _ w1, _, rfl, _, _, _, _, rfl, rfl, SqL.of (hf.f.r _ w1), atR _ w2, _, rfl, _, _, rfl, rfl, _, rfl, ?_⟩
      rw [take_snoc eq]
      have mem : ∀ {p : Pr}, p ∈ l.take i ++ [q] → p ∈ l.take i ∨ p = q := fun h => by
        rcases List.mem_append.mp h with h | h
        · exact .inl h
        · exact .inr (List.mem_singleton.mp h)
      refine ite2 (fun h => ?_) (fun h => ?_)
      · have hl : f q.1 q.2 < a := of_decide_eq_true h
        refine ⟨_, rfl, _, rfl, gf, _, _, _, rfl, rfl, SqL.of hf.f.o, atR _ w1, _, rfl, _, _, _, _, rfl, rfl, SqL.of (hf.f.r _ w1), atR _ w2, ?_⟩
        refine ⟨_, _, f q.1 q.2, rfl, rfl, w3, by omega, by omega, fun p hp' => ?_⟩
        rcases mem hp' with z | z
        · have := hal p z; omega
        · rw [z]; exact Int.le_refl _
      · have hl : ¬ f q.1 q.2 < a := fun z => h (decide_eq_true z)
        refine ⟨_, _, a, rfl, rfl, ha, has, hat, fun p hp' => ?_⟩
        rcases mem hp' with z | z
        · exact hal p z
        · rw [z]; omega
    rintro σ H' ⟨v8, v9, a, rfl, rfl, ha, has, hat, hal⟩
    rw [List.length_map, pL.1, List.take_length] at hal
    have kl : ∀ {H' : Hp} {a : Addr} {o : HO}, SF gs gt r m H H' → H a = some o → a ≠ gs ∧ a ≠ gt ∧ (∀ i, i < m → a ≠ r i) → H' a = some o := fun s e h => s _ _ e h.1 h.2.1 h.2.2
    have kt : ∀ {H' : Hp} {a : Addr} {xs : List V}, SF gs gt r m H H' → H a = some (.tup xs) → H' a = some (.tup xs) := fun s e => s _ _ e (ne_of e hf.s (by intro z; cases z)) (ne_of e hf.t (by intro z; cases z)) (fun i hi => ne_of e (hf.f.r i hi) (by intro z; cases z))
    refine ⟨_, rfl, G, rfl, ⟨_, SqL.of oG⟩, for_list (fun k σ H' => ∃ v8 v9, σ = [some (.ref gf), some (.ref gs), some (.ref gt), some (.ref G), some (.ref L), some (.int (st : Int)), some (.int (goal : Int)), some (.int a), v8, v9] ∧ SF gs gt r m H H' ∧ FlAt H' gf gs gt r m n (bumps f a (g.take k)) sl tl)
      ⟨v8, v9, rfl, SF.refl _ _ _ _ _, hf⟩ (fun i σ H' _ ⟨_, _, _, s, _⟩ => SqL.of (kl s oG ⟨G1, G2, G3⟩)) ?_ ?_⟩
    · rintro i x σ H' hx ⟨v8, v9, rfl, s, F⟩
      obtain ⟨t, et, rfl⟩ := map_ref_at hx
      obtain ⟨q, eq, hq⟩ := pG.of et
      obtain ⟨w1, w2, w3⟩ := hp.g q (List.mem_of_getElem? eq)
      refine ⟨t, _, rfl, t2_at (kt s hq), rfl, _, _, rfl, _, _, rfl, rfl, ?_⟩
      refine ⟨_, rfl, _, rfl, gf, _, _, _, rfl, rfl, SqL.of F.f.o, atR _ w1, _, rfl, r q.1, _, q.2, _, rfl, rfl, SqL.of (F.f.r _ w1), rg_at _ w2, _, rfl, _, _, rfl, rfl, r q.1, _, q.2, rfl, rfl, F.f.r _ w1, by rw [rg_len]; exact w2, ?_⟩
      refine ⟨_, _, rfl, s.up (.inr (.inr ⟨q.1, w1, rfl⟩)), ?_⟩
      rw [take_snoc eq, bumps_snoc]
      exact F.bump d w1 w2 a
    rintro σ H1 ⟨v8, v9, rfl, s1, F1⟩
    rw [List.length_map, pG.1, List.take_length] at F1
    refine ⟨_, rfl, L, rfl, ⟨_, SqL.of (kl s1 oL ⟨L1, L2, L3⟩)⟩, for_list (fun k σ H' => ∃ v8 v9, σ = [some (.ref gf), some (.ref gs), some (.ref gt), some (.ref G), some (.ref L), some (.int (st : Int)), some (.int (goal : Int)), some (.int a), v8, v9] ∧ SF gs gt r m H H' ∧ FlAt H' gf gs gt r m n (bumps (bumps f a g) (-a) (l.take k)) sl tl)
      ⟨v8, v9, rfl, s1, F1⟩ (fun i σ H' _ ⟨_, _, _, s, _⟩ => SqL.of (kl s oL ⟨L1, L2, L3⟩)) ?_ ?_⟩
    · rintro i x σ H' hx ⟨v8, v9, rfl, s, F⟩
      obtain ⟨t, et, rfl⟩ := map_ref_at hx
      obtain ⟨q, eq, hq⟩ := pL.of et
      obtain ⟨w1, w2, w3⟩ := hp.l q (List.mem_of_getElem? eq)
      refine ⟨t, _, rfl, t2_at (kt s hq), rfl, _, _, rfl, _, _, rfl, rfl, ?_⟩
      refine ⟨_, rfl, _, rfl, gf, _, _, _, rfl, rfl, SqL.of F.f.o, atR _ w1, _, rfl, r q.1, _, q.2, _, rfl, rfl, SqL.of (F.f.r _ w1), rg_at _ w2, _, rfl, _, _, rfl, rfl, r q.1, _, q.2, rfl, rfl, F.f.r _ w1, by rw [rg_len]; exact w2, ?_⟩
      refine ⟨_, _, rfl, s.up (.inr (.inr ⟨q.1, w1, rfl⟩)), ?_⟩
      rw [take_snoc eq, bumps_snoc]
      exact F.bump d w1 w2 (-a)
    rintro σ H2 ⟨v8, v9, rfl, s2, F2⟩
    rw [List.length_map, pL.1, List.take_length] at F2
    refine ⟨_, rfl, _, rfl, gs, _, st, _, rfl, rfl, SqL.of F2.s, rg_at _ hp.sm, _, rfl, _, _, rfl, rfl, gs, _, st, rfl, rfl, F2.s, by rw [rg_len]; exact hp.sm, ?_⟩
    have F3 := F2.setS d st (sl st - a)
    refine ⟨_, rfl, _, rfl, gt, _, goal, _, rfl, rfl, SqL.of F3.t, rg_at _ hp.gn, _, rfl, _, _, rfl, rfl, gt, _, goal, rfl, rfl, F3.t, by rw [rg_len]; exact hp.gn, ?_⟩
    exact k _ a ((s2.up (.inl rfl)).up (.inr (.inl rfl))) (F3.setT d goal (tl goal - a)) ha has hat hal
end
end K78
end
section
set_option Elab.async false
set_option linter.all false
set_option maxRecDepth 100000
set_option maxHeartbeats 4000000
namespace K78
open PySem PySem.Spec PyProof.Rows L2 He
theorem sm_S (n : Nat) (f : Nat → Int) : sm n f = S n f := by
  unfold sm
  induction n with
  | zero => rfl
  | succ n ih =>
    rw [List.range_succ, List.map_append, List.sum_append, ih]
    show S n f + (f n + 0) = S n f + f n
    omega
def sumAt (H : Hp) (a : Addr) : Int := match H a with
  | some (.lst xs) => (xs.map intV).sum
  | _ => 0
theorem sumAt_eq {H : Hp} {a : Addr} {n : Nat} {f : Nat → Int} (h : IntsAt H a n f) : sumAt H a = S n f := by
  unfold sumAt
  rw [h, ← sm_S]
  unfold sm rg
  show (((List.range n).map fun i => V.int (f i)).map intV).sum = _
  rw [List.map_map]
  rfl
theorem SF.sameH {gs gt : Addr} {r : Nat → Addr} {m : Nat} {H0 H H' : Hp} (s : SF gs gt r m H H') (s0 : Same H0 H) (h1 : H0 gs = none) (h2 : H0 gt = none) (h3 : ∀ i, i < m → H0 (r i) = none) : Same H0 H' := fun b o e =>
  s b o (s0 b o e) (ne_of_none e h1) (ne_of_none e h2) fun i hi => ne_of_none e (h3 i hi)
section
variable {P : Program} {w : World} {K : PySem.W.Frag} {mg : Str → Option Value} {base : Heap}
def sp_greatest_flow (K : PySem.W.Frag) : Sp := fun vs H Q _ => ∃ (gu ga gb : Addr) (m n : Nat) (U : Nat → Nat → Bool) (s t : Nat → Int) (ru : Nat → Addr) (x : Nat → Nat → Int), vs = [.ref gu, .ref ga, .ref gb] ∧
  RowsAt H gu m n (fun i j => .bl (U i j)) ru ∧ IntsAt H ga m s ∧ IntsAt H gb n t ∧ m ≤ 9 ∧ n ≤ 9 ∧ (∀ i, i < m → 0 ≤ s i) ∧ (∀ j, j < n → 0 ≤ t j) ∧
  (∀ i j, 0 ≤ x i j) ∧ (∀ i, i < m → ∀ j, j < n → 0 < x i j → U i j = true) ∧ (∀ i, i < m → row n x i = s i) ∧ (∀ j, j < n → col m x j ≤ t j) ∧
  ∀ H' T S R v, Same H H' → H T = none → H' T = some (.tup [.ref S, R]) → IntsAt H' S m v → (∀ i, i < m → v i = 0) → Q (.ref T) H'
theorem ok_greatest_flow (E : TX K mg) : FnOk P w K mg base CX0 2 (a_greatest_flow K) (fdOf K (a_greatest_flow K)) P_greatest_flow (sp_greatest_flow K) := by
  refine (f_greatest_flow E).ok sc_greatest_flow (fun vs H Q E' h => ?_) (fun cdv A outer s H vs Q E' hr h => ?_)
  · obtain ⟨_, _, _, _, _, _, _, _, _, _, rfl, _⟩ := h; rfl
  · obtain ⟨gu, ga, gb, m, n, U, s, t, ru, x, rfl, hu, ha, hb, hm, hn, hs, ht, hx, hxU, hxr, hxc, k⟩ := h
    refine ⟨_, PSs.nox (pss_cons (ps_setLc (i := 3) (own := [("source", 4)]) rfl sc_greatest_flow.nd rfl rfl (sw_true rfl rfl rfl (by decide +kernel)) (pi_list (pv 1)) (blkOk_by (own := [("source", 4)]) (N := N_greatest_flow) (sc := defScope s_greatest_flow) (by decide +kernel)) (fun _ _ _ _ _ => (pg_name (i := 4) sc_greatest_flow.nd rfl (Or.inl rfl))) (fun _ _ _ _ _ => pts_nil) (fun _ _ _ _ _ => (pe_lc (own := [("target", 5)]) rfl sc_greatest_flow.nd (pi_listK (K := K) rfl (pv 2)) (blkOk_by (own := [("target", 5)]) (N := N_greatest_flow) (sc := relS (cSc s_greatest_flow 0) (defScope s_greatest_flow)) (by decide +kernel)) (fun _ _ _ _ _ => (pg_name (i := 5) sc_greatest_flow.nd rfl (Or.inl rfl))) (fun _ _ _ _ _ => pts_nil) (fun _ _ _ _ _ => pe_int))))
    (pss_cons (ps_set (i := 6) sc_greatest_flow.nd rfl (Or.inl rfl) (pe_callTy call_list_of (by rfl) (fr_list (K := K) E) (by decide +kernel) (pa_cons (pv 1) pa_nil)))
    (pss_cons (ps_set (i := 7) sc_greatest_flow.nd rfl (Or.inl rfl) (pe_callTy call_list_of (by rfl) (fr_list (K := K) E) (by decide +kernel) (pa_cons (pv 2) pa_nil)))
    (pss_cons (ps_asg (pe_call (ok_reach (K := K) E) (hr.mono (by decide)) rfl (g_reach (K := K) E) (k_reach (K := K) E) (b_reach (K := K) E) .nil pass0 (pa_cons (pv 0) (pa_cons (pv 3) (pa_cons (pv 6) (pa_cons (pv 7) pa_nil))))) (pg_tup rfl (pgs_cons (pg_name (i := 8) sc_greatest_flow.nd rfl (Or.inr rfl)) (pgs_cons (pg_name (i := 9) sc_greatest_flow.nd rfl (Or.inl rfl)) (pgs_cons (pg_name (i := 10) sc_greatest_flow.nd rfl (Or.inl rfl)) pgs_nil)))))
    (pss_cons (ps_while PassesOwn.never (pt_cmpR op_notN (pv 10) pe_non (nomark _))
    (pss_cons (ps_asg (pe_call (ok_path_to (K := K) E) (hr.mono (by decide)) rfl (g_path_to (K := K) E) (k_path_to (K := K) E) (b_path_to (K := K) E) .nil pass0 (pa_cons (pv 10) (pa_cons (pv 8) (pa_cons (pv 9) pa_nil)))) (pg_tup rfl (pgs_cons (pg_name (i := 11) sc_greatest_flow.nd rfl (Or.inl rfl)) (pgs_cons (pg_name (i := 12) sc_greatest_flow.nd rfl (Or.inl rfl)) pgs_nil))))
    (pss_cons (ps_expr (pe_call (ok_augment (K := K) E) (hr.mono (by decide)) rfl (g_augment (K := K) E) (k_augment (K := K) E) (b_augment (K := K) E) .nil pass0 (pa_cons (pv 3) (pa_cons (pv 6) (pa_cons (pv 7) (pa_cons (pv 11) (pa_cons (pv 12) pa_nil)))))))
    (pss_one (ps_asg (pe_call (ok_reach (K := K) E) (hr.mono (by decide)) rfl (g_reach (K := K) E) (k_reach (K := K) E) (b_reach (K := K) E) .nil pass0 (pa_cons (pv 0) (pa_cons (pv 3) (pa_cons (pv 6) (pa_cons (pv 7) pa_nil))))) (pg_tup rfl (pgs_cons (pg_name (i := 8) sc_greatest_flow.nd rfl (Or.inr rfl)) (pgs_cons (pg_name (i := 9) sc_greatest_flow.nd rfl (Or.inl rfl)) (pgs_cons (pg_name (i := 10) sc_greatest_flow.nd rfl (Or.inl rfl)) pgs_nil)))))))))
    (pss_cons (ps_setLc (i := 13) (own := [("source", 4)]) rfl sc_greatest_flow.nd rfl rfl (sw_true rfl rfl rfl (by decide +kernel)) (pi_range1 rfl (fr_range (K := K) E) (pa_cons (pe_callB call_len_seq (by rfl) (fr_len (K := K) E) boot_len (pa_cons (pv 1) pa_nil)) pa_nil)) (blkOk_by (own := [("source", 4)]) (N := N_greatest_flow) (sc := defScope s_greatest_flow) (by decide +kernel)) (fun _ _ _ _ _ => (pg_name (i := 4) sc_greatest_flow.nd rfl (Or.inl rfl))) (fun _ _ _ _ _ => (pts_one (pt_cmpR op_notN (pe_ix (ix_listK (K := K) rfl) (pv 8) (pv 4) (fun _ _ => rfl)) pe_non (nomark _)))) (fun _ _ _ _ _ => (pv 4)))
    (pss_one (ps_ret (pe_tup (pa_cons (pv 6) (pa_cons (pv 13) pa_nil))))))))))), ?_⟩
    refine ⟨_, rfl, ga, rfl, ⟨_, SqL.of ha⟩, fun D hD => ?_⟩
    refine walk_go (walk_list (xs := rg m fun i => .int (s i))) (fun i H' => ∃ r, Part H H' D i n (fun _ _ => .int 0) r) ⟨_, Part.nil hD⟩ (fun i H' _ ⟨r, p⟩ => SqL.of (p.s _ _ ha)) ?_ ?_
    · rintro i x H' H'' hi ⟨r, p⟩ ⟨rfl, hx⟩
      rw [rg_len] at hi
      refine ⟨rfl, _, rfl, gb, rfl, ⟨_, SqL.of (p.s _ _ hb)⟩, fun D2 hD2 => ?_⟩
      refine walk_go (walk_list (xs := rg n fun i => .int (t i))) (fun j H2 => Same H'' H2 ∧ H2 D2 = some (.lst (rg j fun _ => .int 0))) ⟨Same.new hD2, upd_same⟩ (fun j H2 _ ⟨s2, _⟩ => SqL.of (s2 _ _ (p.s _ _ hb))) ?_ ?_
      · rintro j x H2 H3 hj ⟨s2, o⟩ ⟨rfl, hx⟩
        rw [rg_len] at hj
        exact ⟨rfl, _, o, by rw [rg_len]; exact Nat.lt_of_lt_of_le hj (Nat.le_trans hn (by decide)), Same.up s2 hD2, by rw [upd_same, rg_snoc j fun _ => V.int 0]⟩
      · rintro H2 ⟨s2, o⟩
        rw [rg_len] at o
        exact ⟨_, s2 _ _ p.o, by rw [rg_len]; exact Nat.lt_of_lt_of_le hi (Nat.le_trans hm (by decide)), _, p.step hD s2 hD2 o⟩
    rintro H1 ⟨r, p⟩
    rw [rg_len] at p
    have s1 := p.s
    refine ⟨_, rfl, _, _, rfl, .inl (SqL.of (s1 _ _ ha)), fun gs hgs => ?_⟩
    have sA := Same.new hgs (o := .lst (rg m fun i => .int (s i)))
    refine ⟨_, rfl, _, _, rfl, .inl (SqL.of (sA _ _ (s1 _ _ hb))), fun gt hgt => ?_⟩
    have sB := Same.new hgt (o := .lst (rg n fun i => .int (t i)))
    have s2 := (s1.trans sA).trans sB
    have hgs0 : H gs = none := s1.free hgs
    have hgt0 : H gt = none := (s1.trans sA).free hgt
    have ad : FlAd D gs gt r m := ⟨ne_of_none upd_same hgt, ne_of_none p.o hgs, ne_of_none (sA _ _ p.o) hgt, fun i hi => (p.r i hi).1, fun i hi => ne_of_none (p.r i hi).2 hgs, fun i hi => ne_of_none (sA _ _ (p.r i hi).2) hgt, p.inj⟩
    have F0 : FlAt (upd (upd H1 gs (.lst (rg m fun i => .int (s i)))) gt (.lst (rg n fun i => .int (t i)))) D gs gt r m n (fun _ _ => 0) s t := ⟨(p.rows.same sA).same sB, sB _ _ upd_same, upd_same⟩
    have hk0 : ∀ {H' : Hp} {T A B : Addr} {sf tf : Nat → Option Int} {ρ : Nat → Nat} {gv : V} {f : Nat → Nat → Int} {sl tl : Nat → Int}, True := trivial
    refine ⟨_, rfl, _, rfl, _, rfl, _, rfl, gu, D, gs, gt, m, n, U, fun _ _ => 0, s, t, ru, r, rfl, hu.same s2, F0.f, F0.s, F0.t, hm, hn, fun H2 T A B sf tf ρ gv s3 hT oT hA hB _ _ _ Fd hg => ?_⟩
    refine ⟨T, _, rfl, .inl (.inl oT), rfl, _, _, rfl, _, _, rfl, _, _, rfl, rfl, ?_⟩
    refine while_by (fun σ H' => ∃ (v11 v12 : Option V) (f : Nat → Nat → Int) (sl tl : Nat → Int) (sf tf : Nat → Option Int) (ρ : Nat → Nat) (A B : Addr) (gv : V), σ = [some (.ref gu), some (.ref ga), some (.ref gb), some (.ref D), none, none, some (.ref gs), some (.ref gt), some (.ref A), some (.ref B), some gv, v11, v12, none] ∧ Same H H' ∧ FlAt H' D gs gt r m n f sl tl ∧ FI m n s t f sl tl ∧
        RowAt H' A m sf ∧ RowAt H' B n tf ∧ Found m n U f sl sf tf ρ ∧ ((∃ g : Nat, g < n ∧ gv = .int (g : Int) ∧ tf g ≠ none ∧ 0 < tl g) ∨ (gv = .non ∧ Closed m n U f tl sf tf))) (fun _ H' => (sumAt H' gs).toNat)
      ⟨none, none, _, _, _, sf, tf, ρ, A, B, gv, rfl, s2.trans s3, F0.same s3, FI.zero hs ht, hA, hB, Fd, hg⟩ ?_ (fun σ H Q Q' hm ⟨a, f1, f2, k', f5, q⟩ => ⟨a, f1, f2, k', f5, hm _ _ q⟩)
    rintro σ H3 ⟨v11, v12, f, sl, tl, sf, tf, ρ, A, B, gv, rfl, s3, F3, I3, hA, hB, Fd, hg⟩
    refine ⟨_, rfl, rfl, _, rfl, ?_⟩
    rcases hg with ⟨g, hgn, rfl, htg, htl⟩ | ⟨rfl, hcl⟩
    · refine iteT ?_
      refine ⟨_, rfl, _, rfl, _, rfl, g, A, B, m, n, U, f, sl, sf, tf, ρ, rfl, hA, hB, hm, Fd, hgn, htg, fun H4 T2 G L gl ll st s4 hT2 oT2 hG0 hL0 pG pL hp => ?_⟩
      refine ⟨T2, _, rfl, .inl (.inl oT2), rfl, _, _, rfl, _, _, rfl, rfl, ?_⟩
      have F4 := F3.same s4
      have farG : G ≠ gs ∧ G ≠ gt ∧ ∀ i, i < m → G ≠ r i := ⟨(ne_of_none F3.s hG0).symm, (ne_of_none F3.t hG0).symm, fun i hi => (ne_of_none (F3.f.r i hi) hG0).symm⟩
      have farL : L ≠ gs ∧ L ≠ gt ∧ ∀ i, i < m → L ≠ r i := ⟨(ne_of_none F3.s hL0).symm, (ne_of_none F3.t hL0).symm, fun i hi => (ne_of_none (F3.f.r i hi) hL0).symm⟩
      refine ⟨_, rfl, _, rfl, _, rfl, _, rfl, _, rfl, D, gs, gt, G, L, r, m, n, U, f, sl, tl, g, st, gl, ll, rfl, F4, ad, pG, pL, farG, farL, hp, htl, fun H5 a sf5 F5 ha1 ha2 ha3 ha4 => ?_⟩
      have s5 : Same H H5 := sf5.sameH (s3.trans s4) hgs0 hgt0 p.fr
      have I5 := I3.aug hp (by omega) ha2 ha3 ha4
      refine ⟨_, rfl, _, rfl, _, rfl, _, rfl, gu, D, gs, gt, m, n, U, _, _, _, ru, r, rfl, hu.same s5, F5.f, F5.s, F5.t, hm, hn, fun H6 T3 A' B' sf' tf' ρ' gv' s6 hT3 oT3 hA' hB' _ _ _ Fd' hg' => ?_⟩
      refine ⟨T3, _, rfl, .inl (.inl oT3), rfl, _, _, rfl, _, _, rfl, _, _, rfl, rfl, ?_⟩
      have F6 := F5.same s6
      refine ⟨⟨_, _, _, _, _, sf', tf', ρ', A', B', gv', rfl, s5.trans s6, F6, I5, hA', hB', Fd', hg'⟩, ?_⟩
      show (sumAt H6 gs).toNat < (sumAt H3 gs).toNat
      rw [sumAt_eq F6.s, sumAt_eq F3.s, S_fset sl hp.sm]
      have h1 := S_ge_one I3.sn hp.sm
      have h2 := hp.sp
      omega
    · refine iteF ?_
      refine ⟨_, rfl, ga, _, rfl, .inl (SqL.of (s3 _ _ ha)), ?_⟩
      rw [rg_len]
      refine ⟨_, rfl, by omega, by omega, fun R hR => ?_⟩
      refine walk_go (walk_rg (n := m)) (fun k H' => Same H3 H' ∧ ∃ xs : List V, H' R = some (.lst xs) ∧ xs.length ≤ k) ⟨Same.new hR, [], upd_same, Nat.le_refl _⟩ (fun _ _ _ _ => trivial) ?_ ?_
      · rintro k0 x H' H'' hk ⟨s6, xs, o, hl⟩ ⟨rfl, rfl⟩
        refine ⟨rfl, _, rfl, _, rfl, A, _, _, _, rfl, rfl, SqL.of (s6 _ _ hA), atR _ hk, rfl, _, rfl, ?_⟩
        refine ite2 (fun _ => ?_) (fun _ => ⟨s6, xs, o, by omega⟩)
        exact ⟨_, rfl, _, o, Nat.lt_of_le_of_lt hl (Nat.lt_of_lt_of_le hk (Nat.le_trans hm (by decide))), Same.up s6 hR, _, upd_same, by rw [List.length_append, List.length_singleton]; omega⟩
      rintro H6 ⟨s6, xs, o, _⟩
      refine ⟨_, rfl, _, rfl, by show 2 ≤ sizeLine; decide, fun T2 hT2 => ?_⟩
      have s7 := Same.new hT2 (o := .tup [.ref gs, .ref R])
      have s37 := s3.trans s6
      have hz := cut_full (P := fun i => (sf i).isSome) (T := fun j => (tf j).isSome) I3 hx hxr hxc
        (fun i hi hP j hj q => by
          have := hcl.y i hi (by intro z; rw [z] at hP; cases hP) j hj (hxU i hi j hj q)
          cases e : tf j with
          | none => exact absurd e this
          | some _ => rfl)
        (fun j hj hT i hi q => by
          have := hcl.x j hj (by intro z; rw [z] at hT; cases hT) i hi q
          cases e : sf i with
          | none => exact absurd e this
          | some _ => rfl)
        (fun j hj hT => hcl.e j hj (by intro z; rw [z] at hT; cases hT)) (fun i hi q => by rw [Fd.a i hi q]; rfl)
      exact k _ T2 gs _ sl (s37.trans s7) (s37.free hT2) upd_same (s7 _ _ (s6 _ _ F3.s)) hz
end
end K78
end
section
set_option Elab.async false
set_option linter.all false
set_option maxRecDepth 100000
set_option maxHeartbeats 4000000
namespace K78
open PySem PySem.Spec PyProof.Rows L2 He
section
variable {P : Program} {w : World} {K : PySem.W.Frag} {mg : Str → Option Value} {base : Heap}
def sp_least_prices (K : PySem.W.Frag) : Sp := fun vs H Q _ => ∃ (g : Addr) (m n : Nat) (c : Nat → Nat → Option Int), vs = [.ref g] ∧ GridAt H g m n c ∧ 1 ≤ m ∧ m ≤ 9 ∧ n ≤ 9 ∧
  ∀ H' a v, Same H H' → H a = none → IntsAt H' a n v → (∀ i, i < m → ∀ j, j < n → ∀ p, c i j = some p → v j ≤ p) → Q (.ref a) H'
theorem ok_least_prices (E : TX K mg) : FnOk P w K mg base CX0 1 (a_least_prices K) (fdOf K (a_least_prices K)) P_least_prices (sp_least_prices K) := by
  refine (f_least_prices E).ok sc_least_prices (fun vs H Q E' h => ?_) (fun cdv A outer s H vs Q E' hr h => ?_)
  · obtain ⟨_, _, _, _, rfl, _⟩ := h; rfl
  · obtain ⟨g, m, n, c, rfl, ⟨r, hg⟩, hm1, hm, hn, k⟩ := h
    refine ⟨_, PSs.nox (pss_cons (ps_set (i := 1) sc_least_prices.nd rfl (Or.inl rfl) (pe_lst pa_nil))
    (pss_cons (ps_for PassesOwn.never rfl (pi_range1 rfl (fr_range (K := K) E) (pa_cons (pe_callB call_len_seq (by rfl) (fr_len (K := K) E) boot_len (pa_cons (pe_ix ix_list (pv 0) pe_int (fun _ _ => rfl)) pa_nil)) pa_nil)) (pg_name (i := 2) sc_least_prices.nd rfl (Or.inl rfl))
    (pss_cons (ps_set (i := 3) sc_least_prices.nd rfl (Or.inl rfl) pe_non)
    (pss_cons (ps_for PassesOwn.never rfl (pi_list (pv 0)) (pg_name (i := 4) sc_least_prices.nd rfl (Or.inl rfl))
    (pss_cons (ps_set (i := 5) sc_least_prices.nd rfl (Or.inl rfl) (pe_ix ix_list (pv 4) (pv 2) (fun _ _ => rfl)))
    (pss_one (ps_if (PW.pt (pw_and (pt_cmpR op_notN (pv 5) pe_non (nomark _)) (pw_and1 (PW.pt (pw_or (pt_cmpR op_isN (pv 3) pe_non (nomark _)) (pw_or1 (pt_cmpR op_lt (pv 5) (pv 3) (nomark _)))))))) (pss_one (ps_set (i := 3) sc_least_prices.nd rfl (Or.inl rfl) (pv 5))) pss_nil))))
    (pss_cons (ps_if (pt_cmpR op_isN (pv 3) pe_non (nomark _)) (pss_one (ps_set (i := 3) sc_least_prices.nd rfl (Or.inl rfl) pe_int)) pss_nil)
    (pss_one (ps_expr (pe_bm PySem.F.plainAttrs_list PySem.F.slot_list_append PySem.F.type_list_append mt_append (pv 1) (pa_cons (pv 3) pa_nil))))))))
    (pss_one (ps_ret (pv 1))))), ?_⟩
    have ix0 : atI (rg m fun i => V.ref (r i)) 0 = some (V.ref (r 0)) := atR (i := 0) _ hm1
    refine ⟨Nat.zero_le _, fun l hl => ?_⟩
    have s0 := Same.new hl (o := .lst [])
    refine ⟨_, rfl, g, _, _, _, rfl, rfl, SqL.of (s0 _ _ hg.o), ix0, _, _, rfl, .inl (SqL.of (s0 _ _ (hg.r 0 hm1))), ?_⟩
    rw [rg_len]
    refine ⟨_, rfl, by omega, by omega, ?_⟩
    refine for_it (walk_rg (n := n)) (fun j σ H' => ∃ (v2 v3 v4 v5 : Option V) (v : Nat → Int), σ = [some (.ref g), some (.ref l), v2, v3, v4, v5] ∧ Same H H' ∧ IntsAt H' l j v ∧ ∀ i, i < m → ∀ j', j' < j → ∀ p, c i j' = some p → v j' ≤ p)
      ⟨none, none, none, none, fun _ => 0, rfl, s0, upd_same, fun i _ j' hj => absurd hj (Nat.not_lt_zero _)⟩ (fun _ _ _ _ _ => trivial) ?_ ?_
    · rintro j x σ H' H'' hj ⟨v2, v3, v4, v5, v, rfl, s, o, hv⟩ ⟨rfl, rfl⟩
      refine ⟨_, rfl, g, rfl, ⟨_, SqL.of (s _ _ hg.o)⟩, for_list (fun i σ H' => ∃ (v4 v5 : Option V) (fo : Option Int), σ = [some (.ref g), some (.ref l), some (.int (j : Int)), some (ov fo), v4, v5] ∧ H'' = H' ∧ ∀ i', i' < i → ∀ p, c i' j = some p → ∃ q, fo = some q ∧ q ≤ p)
        ⟨_, _, none, rfl, rfl, fun i' hi => absurd hi (Nat.not_lt_zero _)⟩ (fun i σ H' _ ⟨_, _, _, _, e, _⟩ => by rw [← e]; exact SqL.of (s _ _ hg.o)) ?_ ?_⟩
      · rintro i x σ H' hx ⟨v4, v5, fo, rfl, rfl, hfo⟩
        obtain ⟨hi, rfl⟩ := rg_of hx
        refine ⟨_, rfl, _, rfl, r i, _, _, _, rfl, rfl, SqL.of (s _ _ (hg.r i hi)), atR (fun j => ov (c i j)) hj, ?_⟩
        refine ⟨_, rfl, rfl, _, rfl, ?_⟩
        cases e : c i j with
        | none =>
          refine ⟨_, _, fo, rfl, rfl, fun i' hi' p hp => ?_⟩
          by_cases z : i' = i
          · rw [z, e] at hp; cases hp
          · exact hfo i' (by omega) p hp
        | some q =>
          refine ⟨_, rfl, rfl, _, rfl, ?_⟩
          have keep : ∀ fo' : Option Int, (∃ z, fo' = some z ∧ z ≤ q) → (∀ z, fo = some z → ∃ z', fo' = some z' ∧ z' ≤ z) → ∀ i', i' < i + 1 → ∀ p, c i' j = some p → ∃ z, fo' = some z ∧ z ≤ p := fun fo' h1 h2 i' hi' p hp => by
            by_cases z : i' = i
            · rw [z, e] at hp
              cases hp
              exact h1
            · obtain ⟨z1, z2, z3⟩ := hfo i' (by omega) p hp
              obtain ⟨z4, z5, z6⟩ := h2 z1 z2
              exact ⟨z4, z5, by omega⟩
          cases fo with
          | none =>
            refine ⟨_, rfl, _, _, some q, rfl, rfl, keep _ ⟨q, rfl, Int.le_refl _⟩ fun z e => by cases e⟩
          | some f0 =>
            refine ⟨_, rfl, _, rfl, _, _, rfl, rfl, _, rfl, ?_⟩
            refine ite2 (fun h => ?_) (fun h => ?_)
            · have hl := of_decide_eq_true h
              exact ⟨_, rfl, _, _, some q, rfl, rfl, keep _ ⟨q, rfl, Int.le_refl _⟩ fun z e => ⟨q, rfl, by cases e; omega⟩⟩
            · have hl : ¬ q < f0 := fun z => h (decide_eq_true z)
              exact ⟨_, _, some f0, rfl, rfl, keep _ ⟨f0, rfl, by omega⟩ fun z e => ⟨z, e, Int.le_refl _⟩⟩
      · rintro σ H' ⟨v4, v5, fo, rfl, rfl, hfo⟩
        rw [rg_len] at hfo
        refine ⟨_, rfl, rfl, _, rfl, ?_⟩
        have fin : ∀ (q : Int) (v4 v5 : Option V), (∀ i, i < m → ∀ p, c i j = some p → q ≤ p) → ∃ (v2 v3 v4' v5' : Option V) (v' : Nat → Int), [some (.ref g), some (.ref l), some (.int (j : Int)), some (.int q), v4, v5] = [some (.ref g), some (.ref l), v2, v3, v4', v5'] ∧ Same H (upd H'' l (.lst ((rg j fun i => .int (v i)) ++ [.int q]))) ∧ IntsAt (upd H'' l (.lst ((rg j fun i => .int (v i)) ++ [.int q]))) l (j + 1) v' ∧ ∀ i, i < m → ∀ j', j' < j + 1 → ∀ p, c i j' = some p → v' j' ≤ p := fun q v4 v5 hq => by
          refine ⟨_, _, _, _, fun k => if k = j then q else v k, rfl, Same.up s hl, ?_, fun i hi j' hj' p hp => ?_⟩
          · show upd _ _ _ _ = _
            rw [upd_same, rg_snoc']
            congr 2
            exact rg_congr fun k _ => by show _ = V.int (if k = j then q else v k); split <;> rfl
          · show (if j' = j then q else v j') ≤ p
            by_cases e : j' = j
            · subst e
              rw [if_pos rfl]
              exact hq i hi p hp
            · rw [if_neg e]
              exact hv i hi j' (by omega) p hp
        have hsz : (rg j fun i => V.int (v i)).length < sizeLine := by rw [rg_len]; exact Nat.lt_of_lt_of_le hj (Nat.le_trans hn (by decide))
        cases fo with
        | none =>
          exact ⟨_, rfl, .inl ⟨rfl, _, SqL.of o⟩, _, rfl, l, _, _, rfl, rfl, o, hsz, fin 0 _ _ fun i hi p hp => by obtain ⟨q, e, _⟩ := hfo i hi p hp; cases e⟩
        | some q =>
          exact ⟨_, rfl, .inl ⟨rfl, _, SqL.of o⟩, _, rfl, l, _, _, rfl, rfl, o, hsz, fin q _ _ fun i hi p hp => by obtain ⟨q', e, h⟩ := hfo i hi p hp; cases e; exact h⟩
    · rintro σ H' ⟨v2, v3, v4, v5, v, rfl, s, o, hv⟩
      exact ⟨_, rfl, k H' l v s hl o hv⟩
/-- which pairs are tight -/
def tB (c : Nat → Nat → Option Int) (u v : Nat → Int) (i j : Nat) : Bool := match c i j with
  | none => false
  | some p => decide (V.int p = V.int (u i + v j))
theorem tB_iff {c : Nat → Nat → Option Int} {u v : Nat → Int} {i j : Nat} : tB c u v i j = true ↔ c i j = some (u i + v j) := by
  unfold tB
  cases c i j with
  | none => simp
  | some p =>
    show decide (V.int p = V.int (u i + v j)) = true ↔ _
    rw [decide_eq_true_eq]
    constructor
    · intro e
      injection e with e
      rw [e]
    · intro e
      rw [Option.some.inj e]
def sp_tight_pairs (K : PySem.W.Frag) : Sp := fun vs H Q _ => ∃ (g a b : Addr) (m n : Nat) (c : Nat → Nat → Option Int) (u v : Nat → Int), vs = [.ref g, .ref a, .ref b] ∧ GridAt H g m n c ∧ IntsAt H a m u ∧ IntsAt H b n v ∧ m ≤ 9 ∧ n ≤ 9 ∧
  ∀ H' D r, Same H H' → H D = none → RowsAt H' D m n (fun i j => .bl (tB c u v i j)) r → Q (.ref D) H'
theorem ok_tight_pairs (E : TX K mg) : FnOk P w K mg base CX0 1 (a_tight_pairs K) (fdOf K (a_tight_pairs K)) P_tight_pairs (sp_tight_pairs K) := by
  refine (f_tight_pairs E).ok sc_tight_pairs (fun vs H Q E' h => ?_) (fun cdv A outer s H vs Q E' hr h => ?_)
  · obtain ⟨_, _, _, _, _, _, _, _, rfl, _⟩ := h; rfl
  · obtain ⟨g, a, b, m, n, c, u, v, rfl, ⟨r, hg⟩, ha, hb, hm, hn, k⟩ := h
    refine ⟨_, PSs.nox (pss_cons (ps_set (i := 3) sc_tight_pairs.nd rfl (Or.inl rfl) (pe_lst pa_nil))
    (pss_cons (ps_for PassesOwn.never rfl (pi_zip rfl (fr_zip (K := K) E) (pa_cons (pv 0) (pa_cons (pv 1) pa_nil))) (pg_tup rfl (pgs_cons (pg_name (i := 4) sc_tight_pairs.nd rfl (Or.inl rfl)) (pgs_cons (pg_name (i := 5) sc_tight_pairs.nd rfl (Or.inr rfl)) pgs_nil)))
    (pss_one (ps_expr (pe_bm PySem.F.plainAttrs_list PySem.F.slot_list_append PySem.F.type_list_append mt_append (pv 3) (pa_cons (pe_lc (own := [("price", 6), ("other", 7)]) rfl sc_tight_pairs.nd (pi_zip rfl (fr_zip (K := K) E) (pa_cons (pv 4) (pa_cons (pv 2) pa_nil))) (blkOk_by (own := [("price", 6), ("other", 7)]) (N := N_tight_pairs) (sc := defScope s_tight_pairs) (by decide +kernel)) (fun _ _ _ _ _ => (pg_tupK (K := K) (n := 2) rfl rfl (pgs_cons (pg_name (i := 6) sc_tight_pairs.nd rfl (Or.inl rfl)) (pgs_cons (pg_name (i := 7) sc_tight_pairs.nd rfl (Or.inl rfl)) pgs_nil)))) (fun _ _ _ _ _ => pts_nil) (fun _ _ _ _ _ => (pe_and (pe_cmpR op_notN (pv 6) pe_non (nomark _)) (pe_one (pe_cmpR op_eq (pv 6) (pe_op op_add (pv 5) (pv 7)) (nomark _)))))) pa_nil)))))
    (pss_one (ps_ret (pv 3))))), ?_⟩
    refine ⟨Nat.zero_le _, fun D hD => ?_⟩
    have s0 := Same.new hD (o := .lst [])
    refine ⟨_, rfl, _, rfl, g, a, _, _, rfl, SqL.of (s0 _ _ hg.o), SqL.of (s0 _ _ ha), ?_⟩
    refine for_it (walk_zip (xs := rg m fun i => .ref (r i)) (ys := rg m fun i => .int (u i)) (n := m) (by rw [rg_len, rg_len]; omega)) (fun i σ H' => ∃ (v4 v5 : Option V) (r' : Nat → Addr), σ = [some (.ref g), some (.ref a), some (.ref b), some (.ref D), v4, v5, none, none] ∧ Part H H' D i n (fun i j => .bl (tB c u v i j)) r')
      ⟨none, none, _, rfl, Part.nil hD⟩ (fun i σ H' _ ⟨_, _, _, _, p⟩ => ⟨SqL.of (p.s _ _ hg.o), SqL.of (p.s _ _ ha)⟩) ?_ ?_
    · rintro i x σ H' H'' hi ⟨v4, v5, r', rfl, p⟩ ⟨T, y1, y2, rfl, hT, rfl, e1, e2⟩
      obtain ⟨_, rfl⟩ := rg_of e1
      obtain ⟨_, rfl⟩ := rg_of e2
      have sT := Same.new hT (o := .tup [.ref (r i), .int (u i)])
      refine ⟨_, _, rfl, .inl (.inl upd_same), rfl, _, _, rfl, _, _, rfl, rfl, ?_⟩
      refine ⟨_, rfl, .inl ⟨rfl, _, SqL.of (sT _ _ p.o)⟩, ?_⟩
      refine ⟨_, rfl, _, rfl, r i, b, _, _, rfl, SqL.of (sT _ _ (p.s _ _ (hg.r i hi))), SqL.of (sT _ _ (p.s _ _ hb)), fun D2 hD2 => ?_⟩
      refine walk_go (walk_zip (xs := rg n fun j => ov (c i j)) (ys := rg n fun j => .int (v j)) (n := n) (by rw [rg_len, rg_len]; omega)) (fun j H2 => Same H' H2 ∧ H2 D2 = some (.lst (rg j fun j => .bl (tB c u v i j)))) ⟨Same.new0 sT hD2, upd_same⟩
        (fun j H2 _ ⟨s2, _⟩ => ⟨SqL.of (s2 _ _ (p.s _ _ (hg.r i hi))), SqL.of (s2 _ _ (p.s _ _ hb))⟩) ?_ ?_
      · rintro j x H2 H3 hj ⟨s2, o⟩ ⟨T2, y1, y2, rfl, hT2, rfl, e1, e2⟩
        obtain ⟨_, rfl⟩ := rg_of e1
        obtain ⟨_, rfl⟩ := rg_of e2
        have sT2 := Same.new hT2 (o := .tup [ov (c i j), .int (v j)])
        refine ⟨_, _, rfl, .inl (.inl upd_same), rfl, _, _, rfl, _, _, rfl, rfl, ?_⟩
        refine ⟨rfl, ?_⟩
        have fin : ∃ acc, upd H2 T2 (.tup [ov (c i j), .int (v j)]) D2 = some (.lst acc) ∧ acc.length < sizeLine ∧ Same H' (upd (upd H2 T2 (.tup [ov (c i j), .int (v j)])) D2 (.lst (acc ++ [.bl (tB c u v i j)]))) ∧ upd (upd H2 T2 (.tup [ov (c i j), .int (v j)])) D2 (.lst (acc ++ [.bl (tB c u v i j)])) D2 = some (.lst (rg (j + 1) fun j => .bl (tB c u v i j))) :=
          ⟨_, sT2 _ _ o, by rw [rg_len]; exact Nat.lt_of_lt_of_le hj (Nat.le_trans hn (by decide)), Same.up (s2.trans sT2) ((Same.new hT).free hD2), by rw [upd_same, rg_snoc j fun j => V.bl (tB c u v i j)]⟩
        refine ⟨_, rfl, rfl, _, rfl, ?_⟩
        cases e : c i j with
        | none =>
          have et : tB c u v i j = false := by unfold tB; rw [e]
          rw [et, e] at fin
          exact fin
        | some q =>
          have et : tB c u v i j = decide (V.int q = V.int (u i + v j)) := by unfold tB; rw [e]
          rw [et, e] at fin
          exact ⟨_, rfl, _, rfl, _, rfl, _, _, rfl, rfl, rfl, fin⟩
      · rintro H2 ⟨s2, o⟩
        refine ⟨D, _, _, rfl, rfl, s2 _ _ p.o, by rw [rg_len]; exact Nat.lt_of_lt_of_le hi (Nat.le_trans hm (by decide)), ?_⟩
        exact ⟨_, _, _, rfl, p.step hD s2 ((Same.new hT).free hD2) o⟩
    · rintro σ H' ⟨v4, v5, r', rfl, p⟩
      exact ⟨_, rfl, k H' D r' p.s hD p.rows⟩
end
end K78
end
section
set_option Elab.async false
set_option linter.all false
set_option maxRecDepth 100000
set_option maxHeartbeats 4000000
namespace K78
open PySem PySem.Spec PyProof.Rows L2 He
section
variable {P : Program} {w : World} {K : PySem.W.Frag} {mg : Str → Option Value} {base : Heap}
/-- the least gap so far: over the pairs that A tells -/
structure Gap (c : Nat → Nat → Option Int) (u v : Nat → Int) (A : Nat → Nat → Prop) (go : Option Int) : Prop where
  lo : ∀ i j, A i j → ∀ p, c i j = some p → ∃ g, go = some g ∧ g ≤ p - u i - v j
  at_ : ∀ g, go = some g → ∃ i j p, A i j ∧ c i j = some p ∧ g = p - u i - v j
theorem Gap.imp {c : Nat → Nat → Option Int} {u v : Nat → Int} {A B : Nat → Nat → Prop} {go : Option Int} (h : Gap c u v A go) (h1 : ∀ i j, B i j → A i j ∨ c i j = none) (h2 : ∀ i j, A i j → B i j) : Gap c u v B go := by
  refine ⟨fun i j q p e => ?_, fun g e => ?_⟩
  · rcases h1 i j q with z | z
    · exact h.lo i j z p e
    · rw [z] at e; cases e
  · obtain ⟨i, j, p, a, b, d⟩ := h.at_ g e
    exact ⟨i, j, p, h2 i j a, b, d⟩
def sp_least_gap (K : PySem.W.Frag) : Sp := fun vs H Q _ => ∃ (g a b A B : Addr) (m n : Nat) (c : Nat → Nat → Option Int) (u v : Nat → Int) (sf tf : Nat → Option Int), vs = [.ref g, .ref a, .ref b, .ref A, .ref B] ∧ GridAt H g m n c ∧ IntsAt H a m u ∧ IntsAt H b n v ∧ RowAt H A m sf ∧ RowAt H B n tf ∧ m ≤ 9 ∧ n ≤ 9 ∧
  ∀ H' go, Same H H' → Gap c u v (fun i j => i < m ∧ j < n ∧ sf i ≠ none ∧ tf j = none) go → Q (ov go) H'
theorem ok_least_gap (E : TX K mg) : FnOk P w K mg base CX0 1 (a_least_gap K) (fdOf K (a_least_gap K)) P_least_gap (sp_least_gap K) := by
  refine (f_least_gap E).ok sc_least_gap (fun vs H Q E' h => ?_) (fun cdv A outer s H vs Q E' hr h => ?_)
  · obtain ⟨_, _, _, _, _, _, _, _, _, _, _, _, rfl, _⟩ := h; rfl
  · obtain ⟨g, a, b, A', B', m, n, c, u, v, sf, tf, rfl, ⟨r, hg⟩, ha, hb, hA, hB, hm, hn, k⟩ := h
    refine ⟨_, PSs.nox (pss_cons (ps_set (i := 5) sc_least_gap.nd rfl (Or.inl rfl) pe_non)
    (pss_cons (ps_for PassesOwn.never rfl (pi_enum rfl (fr_enumerate (K := K) E) (pa_cons (pv 0) pa_nil)) (pg_tup rfl (pgs_cons (pg_name (i := 6) sc_least_gap.nd rfl (Or.inl rfl)) (pgs_cons (pg_name (i := 7) sc_least_gap.nd rfl (Or.inl rfl)) pgs_nil)))
    (pss_cons (ps_if (pt_cmpR op_isN (pe_ix ix_list (pv 3) (pv 6) (fun _ _ => rfl)) pe_non (nomark _)) (pss_one ps_continue) pss_nil)
    (pss_one (ps_for PassesOwn.never rfl (pi_enum rfl (fr_enumerate (K := K) E) (pa_cons (pv 7) pa_nil)) (pg_tup rfl (pgs_cons (pg_name (i := 8) sc_least_gap.nd rfl (Or.inl rfl)) (pgs_cons (pg_name (i := 9) sc_least_gap.nd rfl (Or.inl rfl)) pgs_nil)))
    (pss_cons (ps_if (PW.pt (pw_or (pt_cmpR op_isN (pv 9) pe_non (nomark _)) (pw_or1 (pt_cmpR op_notN (pe_ix ix_list (pv 4) (pv 8) (fun _ _ => rfl)) pe_non (nomark _))))) (pss_one ps_continue) pss_nil)
    (pss_cons (ps_set (i := 10) sc_least_gap.nd rfl (Or.inl rfl) (pe_op op_sub (pe_op op_sub (pv 9) (pe_ix ix_list (pv 1) (pv 6) (fun _ _ => rfl))) (pe_ix ix_list (pv 2) (pv 8) (fun _ _ => rfl))))
    (pss_one (ps_if (PW.pt (pw_or (pt_cmpR op_isN (pv 5) pe_non (nomark _)) (pw_or1 (pt_cmpR op_lt (pv 10) (pv 5) (nomark _))))) (pss_one (ps_set (i := 5) sc_least_gap.nd rfl (Or.inl rfl) (pv 10))) pss_nil))))))))
    (pss_one (ps_ret (pv 5))))), ?_⟩
    refine ⟨_, rfl, g, _, rfl, SqL.of hg.o, ?_⟩
    refine for_it (walk_enum (xs := rg m fun i => .ref (r i))) (fun k σ H' => ∃ (v6 v7 v8 v9 v10 : Option V) (go : Option Int), σ = [some (.ref g), some (.ref a), some (.ref b), some (.ref A'), some (.ref B'), some (ov go), v6, v7, v8, v9, v10] ∧ Same H H' ∧ Gap c u v (fun i j => i < k ∧ j < n ∧ sf i ≠ none ∧ tf j = none) go)
      ⟨none, none, none, none, none, none, rfl, Same.refl H, fun i j q => absurd q.1 (Nat.not_lt_zero _), fun g e => by cases e⟩ (fun k σ H' _ ⟨_, _, _, _, _, _, _, s, _⟩ => SqL.of (s _ _ hg.o)) ?_ ?_
    · rintro i x σ H' H'' hi ⟨v6, v7, v8, v9, v10, go, rfl, s, G⟩ ⟨T, y1, y2, rfl, hT, rfl, e1, e2⟩
      cases e1
      obtain ⟨hi', rfl⟩ := rg_of e2
      have sT := Same.new0 s hT (o := .tup [.int (i : Int), .ref (r i)])
      refine ⟨_, _, rfl, .inl (.inl upd_same), rfl, _, _, rfl, _, _, rfl, rfl, ?_⟩
      refine ⟨_, rfl, _, rfl, A', _, _, _, rfl, rfl, SqL.of (sT _ _ hA), atR _ hi', rfl, _, rfl, ?_⟩
      cases es : sf i with
      | none =>
        refine ⟨_, _, _, _, _, go, rfl, sT, G.imp (fun i' j' q => ?_) fun i' j' q => ⟨by omega, q.2⟩⟩
        by_cases z : i' = i
        · rw [z, es] at q; exact absurd rfl q.2.2.1
        · exact .inl ⟨by omega, q.2⟩
      | some z0 =>
        refine ⟨_, rfl, r i, _, rfl, SqL.of (sT _ _ (hg.r i hi')), ?_⟩
        refine for_it (walk_enum (xs := rg n fun j => ov (c i j))) (fun k σ H' => ∃ (v8 v9 v10 : Option V) (go : Option Int), σ = [some (.ref g), some (.ref a), some (.ref b), some (.ref A'), some (.ref B'), some (ov go), some (.int (i : Int)), some (.ref (r i)), v8, v9, v10] ∧ Same H H' ∧ Gap c u v (fun i' j => (i' < i ∧ j < n ∨ i' = i ∧ j < k) ∧ sf i' ≠ none ∧ tf j = none) go)
          ⟨v8, v9, v10, go, rfl, sT, G.imp (fun i' j' q => .inl ⟨by omega, by omega, q.2⟩) fun i' j' q => ⟨.inl ⟨q.1, q.2.1⟩, q.2.2⟩⟩ (fun k σ H' _ ⟨_, _, _, _, _, s, _⟩ => SqL.of (s _ _ (hg.r i hi'))) ?_ ?_
        · rintro j x σ H' H'' hj ⟨v8, v9, v10, go, rfl, s, G⟩ ⟨T, y1, y2, rfl, hT, rfl, e1, e2⟩
          cases e1
          obtain ⟨hj', rfl⟩ := rg_of e2
          have sT := Same.new0 s hT (o := .tup [.int (j : Int), ov (c i j)])
          refine ⟨_, _, rfl, .inl (.inl upd_same), rfl, _, _, rfl, _, _, rfl, rfl, ?_⟩
          refine ⟨_, rfl, rfl, _, rfl, ?_⟩
          cases ec : c i j with
          | none =>
            rw [ec] at sT
            refine ⟨_, _, _, go, rfl, sT, G.imp (fun i' j' q => ?_) fun i' j' q => ⟨by omega, q.2⟩⟩
            by_cases z : i' = i ∧ j' = j
            · rw [z.1, z.2]; exact .inr ec
            · exact .inl ⟨by omega, q.2⟩
          | some p =>
            rw [ec] at sT
            refine ⟨_, rfl, _, rfl, B', _, _, _, rfl, rfl, SqL.of (sT _ _ hB), atR _ hj', rfl, _, rfl, ?_⟩
            cases et : tf j with
            | some z1 =>
              refine ⟨_, _, _, go, rfl, sT, G.imp (fun i' j' q => .inl ⟨?_, q.2⟩) fun i' j' q => ⟨by omega, q.2⟩⟩
              have : j' ≠ j := fun z => by rw [z, et] at q; cases q.2.2
              omega
            | none =>
              refine ⟨_, rfl, _, rfl, _, rfl, a, _, _, _, rfl, rfl, SqL.of (sT _ _ ha), atR _ hi', _, _, rfl, rfl, ?_⟩
              refine ⟨_, rfl, _, rfl, b, _, _, _, rfl, rfl, SqL.of (sT _ _ hb), atR _ hj', _, _, rfl, rfl, ?_⟩
              have keep : ∀ go' : Option Int, (∃ z, go' = some z ∧ z ≤ p - u i - v j) → (∀ z, go = some z → ∃ z', go' = some z' ∧ z' ≤ z) → (go' = some (p - u i - v j) ∨ go' = go) → Gap c u v (fun i' j' => (i' < i ∧ j' < n ∨ i' = i ∧ j' < j + 1) ∧ sf i' ≠ none ∧ tf j' = none) go' := fun go' h1 h2 h3 => by
                refine ⟨fun i' j' q p' hp' => ?_, fun z hz => ?_⟩
                · by_cases e : i' = i ∧ j' = j
                  · rw [e.1, e.2, ec] at hp'
                    cases hp'
                    rw [e.1, e.2]
                    exact h1
                  · obtain ⟨z1, z2, z3⟩ := G.lo i' j' ⟨by omega, q.2⟩ p' hp'
                    obtain ⟨z4, z5, z6⟩ := h2 z1 z2
                    exact ⟨z4, z5, by omega⟩
                · rcases h3 with h3 | h3
                  · rw [h3] at hz
                    cases hz
                    exact ⟨i, j, p, ⟨.inr ⟨rfl, by omega⟩, by rw [es]; simp, et⟩, ec, rfl⟩
                  · rw [h3] at hz
                    obtain ⟨i', j', p', q1, q2, q3⟩ := G.at_ z hz
                    exact ⟨i', j', p', ⟨by omega, q1.2⟩, q2, q3⟩
              refine ⟨_, rfl, rfl, _, rfl, ?_⟩
              cases go with
              | none => exact ⟨_, rfl, _, _, _, some (p - u i - v j), rfl, sT, keep _ ⟨_, rfl, Int.le_refl _⟩ (fun z e => by cases e) (.inl rfl)⟩
              | some g0 =>
                refine ⟨_, rfl, _, rfl, _, _, rfl, rfl, _, rfl, ?_⟩
                refine ite2 (fun h => ?_) (fun h => ?_)
                · have hl := of_decide_eq_true h
                  exact ⟨_, rfl, _, _, _, some (p - u i - v j), rfl, sT, keep _ ⟨_, rfl, Int.le_refl _⟩ (fun z e => ⟨_, rfl, by cases e; omega⟩) (.inl rfl)⟩
                · have hl : ¬ p - u i - v j < g0 := fun z => h (decide_eq_true z)
                  exact ⟨_, _, _, some g0, rfl, sT, keep _ ⟨_, rfl, by omega⟩ (fun z e => ⟨z, e, Int.le_refl _⟩) (.inr rfl)⟩
        · rintro σ H' ⟨v8, v9, v10, go, rfl, s, G⟩
          rw [rg_len] at G
          exact ⟨_, _, _, _, _, go, rfl, s, G.imp (fun i' j' q => .inl ⟨by omega, q.2.2⟩) fun i' j' q => ⟨by omega, by omega, q.2⟩⟩
    · rintro σ H' ⟨v6, v7, v8, v9, v10, go, rfl, s, G⟩
      rw [rg_len] at G
      exact ⟨_, rfl, k H' go s G⟩
end
end K78
end
section
set_option Elab.async false
set_option linter.all false
set_option maxRecDepth 100000
set_option maxHeartbeats 4000000
namespace K78
open PySem PySem.Spec PyProof.Rows L2 He
def valsAt (H : Hp) (a : Addr) : Nat → Int := fun i => match H a with
  | some (.lst xs) => (match xs[i]? with
    | some v => intV v
    | none => 0)
  | _ => 0
theorem valsAt_eq {H : Hp} {a : Addr} {n : Nat} {f : Nat → Int} (h : IntsAt H a n f) {i : Nat} (hi : i < n) : valsAt H a i = f i := by
  unfold valsAt
  rw [h]
  show (match (rg n fun i => V.int (f i))[i]? with | some v => intV v | none => 0) = f i
  rw [rg_at _ hi]
  rfl
theorem dual_vals {H : Hp} {a b : Addr} {m n : Nat} {u v : Nat → Int} (s t : Nat → Int) (h1 : IntsAt H a m u) (h2 : IntsAt H b n v) : dual m n s t (valsAt H a) (valsAt H b) = dual m n s t u v := by
  unfold dual
  congr 1
  · exact S_congr fun i hi => by rw [valsAt_eq h1 hi]
  · exact S_congr fun i hi => by rw [valsAt_eq h2 hi]
/-- the first k moved -/
def mvK (p : Nat → Bool) (d : Int) (u : Nat → Int) (k : Nat) : Nat → Int := fun i => if i < k ∧ p i = true then u i + d else u i
theorem mvK_zero (p : Nat → Bool) (d : Int) (u : Nat → Int) : mvK p d u 0 = u := by
  funext i
  exact if_neg (by omega)
theorem mvK_at (p : Nat → Bool) (d : Int) (u : Nat → Int) (k : Nat) : mvK p d u k k = u k := if_neg (by omega)
theorem mvK_no {p : Nat → Bool} {k : Nat} (h : p k = false) (d : Int) (u : Nat → Int) : mvK p d u (k + 1) = mvK p d u k := by
  funext l
  unfold mvK
  by_cases z : l = k
  · rw [z, h, if_neg (by simp), if_neg (by simp)]
  · by_cases z2 : l < k ∧ p l = true
    · rw [if_pos z2, if_pos ⟨by omega, z2.2⟩]
    · rw [if_neg z2, if_neg fun z3 => z2 ⟨by omega, z3.2⟩]
theorem mvK_yes {p : Nat → Bool} {k : Nat} (h : p k = true) (d : Int) (u : Nat → Int) (l : Nat) : (if l = k then V.int (u k + d) else V.int (mvK p d u k l)) = V.int (mvK p d u (k + 1) l) := by
  unfold mvK
  by_cases z : l = k
  · rw [if_pos z, z, if_pos ⟨by omega, h⟩]
  · rw [if_neg z]
    by_cases z2 : l < k ∧ p l = true
    · rw [if_pos z2, if_pos ⟨by omega, z2.2⟩]
    · rw [if_neg z2, if_neg fun z3 => z2 ⟨by omega, z3.2⟩]
theorem mvK_end {p : Nat → Bool} {m i : Nat} (hi : i < m) (d : Int) (u : Nat → Int) : mvK p d u m i = if p i = true then u i + d else u i := by
  unfold mvK
  by_cases z : p i = true
  · rw [if_pos ⟨hi, z⟩, if_pos z]
  · rw [if_neg fun q => z q.2, if_neg z]
section
variable {P : Program} {w : World} {K : PySem.W.Frag} {mg : Str → Option Value} {base : Heap}
def sp_cheapest_flow (K : PySem.W.Frag) : Sp := fun vs H Q _ => ∃ (g ga gb : Addr) (m n : Nat) (c : Nat → Nat → Option Int) (s t : Nat → Int) (x : Nat → Nat → Int), vs = [.ref g, .ref ga, .ref gb] ∧
  GridAt H g m n c ∧ IntsAt H ga m s ∧ IntsAt H gb n t ∧ 1 ≤ m ∧ m ≤ 9 ∧ n ≤ 9 ∧ (∀ i, i < m → 0 ≤ s i) ∧ (∀ j, j < n → 0 ≤ t j) ∧ S m s = S n t ∧ Full m n c s t x ∧
  ∀ H' T gf ua va r f u v, Same H H' → H T = none → H' T = some (.tup [.ref gf, .ref ua, .ref va]) → RowsAt H' gf m n (fun i j => .int (f i j)) r → IntsAt H' ua m u → IntsAt H' va n v → Full m n c s t f → (∀ y, Full m n c s t y → dot m n (pc c) f ≤ dot m n (pc c) y) → Q (.ref T) H'
theorem ok_cheapest_flow (E : TX K mg) : FnOk P w K mg base CX0 2 (a_cheapest_flow K) (fdOf K (a_cheapest_flow K)) P_cheapest_flow (sp_cheapest_flow K) := by
  refine (f_cheapest_flow E).ok sc_cheapest_flow (fun vs H Q E' h => ?_) (fun cdv A outer s H vs Q E' hr h => ?_)
  · obtain ⟨_, _, _, _, _, _, _, _, _, rfl, _⟩ := h; rfl
  · obtain ⟨g, ga, gb, m, n, c, s, t, x, rfl, ⟨rg0, hg⟩, ha, hb, hm1, hm, hn, hs, ht, hbal, hx, k⟩ := h
    refine ⟨_, PSs.nox (pss_cons (ps_setLc (i := 3) (own := [("source", 4)]) rfl sc_cheapest_flow.nd rfl rfl (sw_true rfl rfl rfl (by decide +kernel)) (pi_list (pv 1)) (blkOk_by (own := [("source", 4)]) (N := N_cheapest_flow) (sc := defScope s_cheapest_flow) (by decide +kernel)) (fun _ _ _ _ _ => (pg_name (i := 4) sc_cheapest_flow.nd rfl (Or.inl rfl))) (fun _ _ _ _ _ => pts_nil) (fun _ _ _ _ _ => (pe_lc (own := [("target", 5)]) rfl sc_cheapest_flow.nd (pi_listK (K := K) rfl (pv 2)) (blkOk_by (own := [("target", 5)]) (N := N_cheapest_flow) (sc := relS (cSc s_cheapest_flow 0) (defScope s_cheapest_flow)) (by decide +kernel)) (fun _ _ _ _ _ => (pg_name (i := 5) sc_cheapest_flow.nd rfl (Or.inl rfl))) (fun _ _ _ _ _ => pts_nil) (fun _ _ _ _ _ => pe_int))))
    (pss_cons (ps_set (i := 6) sc_cheapest_flow.nd rfl (Or.inl rfl) (pe_callTy call_list_of (by rfl) (fr_list (K := K) E) (by decide +kernel) (pa_cons (pv 1) pa_nil)))
    (pss_cons (ps_set (i := 7) sc_cheapest_flow.nd rfl (Or.inl rfl) (pe_callTy call_list_of (by rfl) (fr_list (K := K) E) (by decide +kernel) (pa_cons (pv 2) pa_nil)))
    (pss_cons (ps_setLc (i := 8) (own := [("source", 4)]) rfl sc_cheapest_flow.nd rfl rfl (sw_true rfl rfl rfl (by decide +kernel)) (pi_list (pv 1)) (blkOk_by (own := [("source", 4)]) (N := N_cheapest_flow) (sc := defScope s_cheapest_flow) (by decide +kernel)) (fun _ _ _ _ _ => (pg_name (i := 4) sc_cheapest_flow.nd rfl (Or.inl rfl))) (fun _ _ _ _ _ => pts_nil) (fun _ _ _ _ _ => pe_int))
    (pss_cons (ps_set (i := 9) sc_cheapest_flow.nd rfl (Or.inl rfl) (pe_call (ok_least_prices (K := K) E) (hr.mono (by decide)) rfl (g_least_prices (K := K) E) (k_least_prices (K := K) E) (b_least_prices (K := K) E) .nil pass0 (pa_cons (pv 0) pa_nil)))
    (pss_cons (ps_while PassesOwn.never (pt_cmpR op_gt (pe_callB (cr_sum rfl) (by rfl) (fr_sum (K := K) E) (by decide +kernel) (pa_cons (pv 6) pa_nil)) pe_int (nomark _))
    (pss_cons (ps_set (i := 10) sc_cheapest_flow.nd rfl (Or.inl rfl) (pe_call (ok_tight_pairs (K := K) E) (hr.mono (by decide)) rfl (g_tight_pairs (K := K) E) (k_tight_pairs (K := K) E) (b_tight_pairs (K := K) E) .nil pass0 (pa_cons (pv 0) (pa_cons (pv 8) (pa_cons (pv 9) pa_nil)))))
    (pss_cons (ps_asg (pe_call (ok_reach (K := K) E) (hr.mono (by decide)) rfl (g_reach (K := K) E) (k_reach (K := K) E) (b_reach (K := K) E) .nil pass0 (pa_cons (pv 10) (pa_cons (pv 3) (pa_cons (pv 6) (pa_cons (pv 7) pa_nil))))) (pg_tup rfl (pgs_cons (pg_name (i := 11) sc_cheapest_flow.nd rfl (Or.inl rfl)) (pgs_cons (pg_name (i := 12) sc_cheapest_flow.nd rfl (Or.inl rfl)) (pgs_cons (pg_name (i := 13) sc_cheapest_flow.nd rfl (Or.inl rfl)) pgs_nil)))))
    (pss_cons (ps_if (pt_cmpR op_notN (pv 13) pe_non (nomark _)) (pss_cons (ps_asg (pe_call (ok_path_to (K := K) E) (hr.mono (by decide)) rfl (g_path_to (K := K) E) (k_path_to (K := K) E) (b_path_to (K := K) E) .nil pass0 (pa_cons (pv 13) (pa_cons (pv 11) (pa_cons (pv 12) pa_nil)))) (pg_tup rfl (pgs_cons (pg_name (i := 14) sc_cheapest_flow.nd rfl (Or.inl rfl)) (pgs_cons (pg_name (i := 15) sc_cheapest_flow.nd rfl (Or.inl rfl)) pgs_nil))))
    (pss_cons (ps_expr (pe_call (ok_augment (K := K) E) (hr.mono (by decide)) rfl (g_augment (K := K) E) (k_augment (K := K) E) (b_augment (K := K) E) .nil pass0 (pa_cons (pv 3) (pa_cons (pv 6) (pa_cons (pv 7) (pa_cons (pv 14) (pa_cons (pv 15) pa_nil)))))))
    (pss_one ps_continue))) pss_nil)
    (pss_cons (ps_set (i := 16) sc_cheapest_flow.nd rfl (Or.inl rfl) (pe_call (ok_least_gap (K := K) E) (hr.mono (by decide)) rfl (g_least_gap (K := K) E) (k_least_gap (K := K) E) (b_least_gap (K := K) E) .nil pass0 (pa_cons (pv 0) (pa_cons (pv 8) (pa_cons (pv 9) (pa_cons (pv 11) (pa_cons (pv 12) pa_nil)))))))
    (pss_cons (ps_for PassesOwn.never rfl (pi_range1 rfl (fr_range (K := K) E) (pa_cons (pe_callB call_len_seq (by rfl) (fr_len (K := K) E) boot_len (pa_cons (pv 1) pa_nil)) pa_nil)) (pg_name (i := 4) sc_cheapest_flow.nd rfl (Or.inl rfl))
    (pss_one (ps_if (pt_cmpR op_notN (pe_ix ix_list (pv 11) (pv 4) (fun _ _ => rfl)) pe_non (nomark _)) (pss_one (ps_augS (pv 8) (pv 4) get_list (pv 16) ip_add set_listN)) pss_nil)))
    (pss_one (ps_for PassesOwn.never rfl (pi_range1 rfl (fr_range (K := K) E) (pa_cons (pe_callB call_len_seq (by rfl) (fr_len (K := K) E) boot_len (pa_cons (pv 2) pa_nil)) pa_nil)) (pg_name (i := 5) sc_cheapest_flow.nd rfl (Or.inl rfl))
    (pss_one (ps_if (pt_cmpR op_notN (pe_ix ix_list (pv 12) (pv 5) (fun _ _ => rfl)) pe_non (nomark _)) (pss_one (ps_augS (pv 9) (pv 5) get_list (pv 16) ip_sub set_listN)) pss_nil))))))))))
    (pss_one (ps_ret (pe_tup (pa_cons (pv 3) (pa_cons (pv 8) (pa_cons (pv 9) pa_nil)))))))))))), ?_⟩
    refine ⟨_, rfl, ga, rfl, ⟨_, SqL.of ha⟩, fun D hD => ?_⟩
    refine walk_go (walk_list (xs := rg m fun i => .int (s i))) (fun i H' => ∃ r, Part H H' D i n (fun _ _ => .int 0) r) ⟨_, Part.nil hD⟩ (fun i H' _ ⟨r, p⟩ => SqL.of (p.s _ _ ha)) ?_ ?_
    · rintro i x H' H'' hi ⟨r, p⟩ ⟨rfl, hx⟩
      rw [rg_len] at hi
      refine ⟨rfl, _, rfl, gb, rfl, ⟨_, SqL.of (p.s _ _ hb)⟩, fun D2 hD2 => ?_⟩
      refine walk_go (walk_list (xs := rg n fun i => .int (t i))) (fun j H2 => Same H'' H2 ∧ H2 D2 = some (.lst (rg j fun _ => .int 0))) ⟨Same.new hD2, upd_same⟩ (fun j H2 _ ⟨s2, _⟩ => SqL.of (s2 _ _ (p.s _ _ hb))) ?_ ?_
      · rintro j x H2 H3 hj ⟨s2, o⟩ ⟨rfl, hx⟩
        rw [rg_len] at hj
        exact ⟨rfl, _, o, by rw [rg_len]; exact Nat.lt_of_lt_of_le hj (Nat.le_trans hn (by decide)), Same.up s2 hD2, by rw [upd_same, rg_snoc j fun _ => V.int 0]⟩
      · rintro H2 ⟨s2, o⟩
        rw [rg_len] at o
        exact ⟨_, s2 _ _ p.o, by rw [rg_len]; exact Nat.lt_of_lt_of_le hi (Nat.le_trans hm (by decide)), _, p.step hD s2 hD2 o⟩
    rintro H1 ⟨r, p⟩
    rw [rg_len] at p
    have s1 := p.s
    refine ⟨_, rfl, _, _, rfl, .inl (SqL.of (s1 _ _ ha)), fun gs hgs => ?_⟩
    have sA := Same.new hgs (o := .lst (rg m fun i => .int (s i)))
    refine ⟨_, rfl, _, _, rfl, .inl (SqL.of (sA _ _ (s1 _ _ hb))), fun gt hgt => ?_⟩
    have sB := Same.new hgt (o := .lst (rg n fun i => .int (t i)))
    have s2 := (s1.trans sA).trans sB
    have hgs0 : H gs = none := s1.free hgs
    have hgt0 : H gt = none := (s1.trans sA).free hgt
    have ad : FlAd D gs gt r m := ⟨ne_of_none upd_same hgt, ne_of_none p.o hgs, ne_of_none (sA _ _ p.o) hgt, fun i hi => (p.r i hi).1, fun i hi => ne_of_none (p.r i hi).2 hgs, fun i hi => ne_of_none (sA _ _ (p.r i hi).2) hgt, p.inj⟩
    have F0 : FlAt (upd (upd H1 gs (.lst (rg m fun i => .int (s i)))) gt (.lst (rg n fun i => .int (t i)))) D gs gt r m n (fun _ _ => 0) s t := ⟨(p.rows.same sA).same sB, sB _ _ upd_same, upd_same⟩
    obtain ⟨H2, eH2⟩ : ∃ H2, upd (upd H1 gs (.lst (rg m fun i => .int (s i)))) gt (.lst (rg n fun i => .int (t i))) = H2 := ⟨_, rfl⟩
    rw [eH2] at s2 F0
    rw [eH2]
    refine ⟨_, rfl, ga, rfl, ⟨_, SqL.of (s2 _ _ ha)⟩, fun ua hua => ?_⟩
    refine walk_go (walk_list (xs := rg m fun i => .int (s i))) (fun i H' => Same H2 H' ∧ H' ua = some (.lst (rg i fun _ => .int 0))) ⟨Same.new hua, upd_same⟩ (fun i H' _ ⟨s, _⟩ => SqL.of (s _ _ (s2 _ _ ha))) ?_ ?_
    · rintro i x H' H'' hi ⟨s, o⟩ ⟨rfl, hx⟩
      rw [rg_len] at hi
      exact ⟨rfl, _, o, by rw [rg_len]; exact Nat.lt_of_lt_of_le hi (Nat.le_trans hm (by decide)), Same.up s hua, by rw [upd_same, rg_snoc i fun _ => V.int 0]⟩
    rintro H3 ⟨s3, ou⟩
    rw [rg_len] at ou
    have hua0 : H ua = none := s2.free hua
    have s23 := s2.trans s3
    refine ⟨_, rfl, g, m, n, c, rfl, ⟨rg0, hg.same s23⟩, hm1, hm, hn, fun H4 va v0 s4 hva ov0 hv0 => ?_⟩
    have s24 := s23.trans s4
    have hva0 : H va = none := s23.free hva
    have F4 := (F0.same s3).same s4
    have uf : ua ≠ gs ∧ ua ≠ gt ∧ (∀ i, i < m → ua ≠ r i) := ⟨(ne_of_none F0.s hua).symm, (ne_of_none F0.t hua).symm, fun i hi => (ne_of_none (F0.f.r i hi) hua).symm⟩
    have uD : ua ≠ D := (ne_of_none F0.f.o hua).symm
    have F3' := F0.same s3
    have vf : va ≠ gs ∧ va ≠ gt ∧ (∀ i, i < m → va ≠ r i) := ⟨(ne_of_none F3'.s hva).symm, (ne_of_none F3'.t hva).symm, fun i hi => (ne_of_none (F3'.f.r i hi) hva).symm⟩
    have vD : va ≠ D := (ne_of_none F3'.f.o hva).symm
    have nuv : ua ≠ va := ne_of_none ou hva
    refine while_by (fun σ H' => ∃ (v4 v5 v10 v11 v12 v13 v14 v15 v16 : Option V) (f : Nat → Nat → Int) (sl tl u v : Nat → Int), σ = [some (.ref g), some (.ref ga), some (.ref gb), some (.ref D), v4, v5, some (.ref gs), some (.ref gt), some (.ref ua), some (.ref va), v10, v11, v12, v13, v14, v15, v16] ∧ Same H H' ∧ FlAt H' D gs gt r m n f sl tl ∧ FI m n s t f sl tl ∧
        IntsAt H' ua m u ∧ IntsAt H' va n v ∧ Dl m n c f u v) (fun _ H' => (sumAt H' gs).toNat + (dot m n (pc c) x - dual m n s t (valsAt H' ua) (valsAt H' va)).toNat)
      ⟨none, none, none, none, none, none, none, none, none, _, _, _, fun _ => 0, v0, rfl, s24, F4, FI.zero hs ht, s4 _ _ ou, ov0, ⟨fun i hi j hj p e => by have := hv0 i hi j hj p e; omega, fun i hi j hj e => by omega⟩⟩ ?_
      (fun σ H Q Q' hm ⟨a, f1, l, ns, f2, f3, i', j', f4, f5, k', f6, q⟩ => ⟨a, f1, l, ns, f2, f3, i', j', f4, f5, k', f6, hm _ _ q⟩)
    rintro σ H5 ⟨v4, v5, v10, v11, v12, v13, v14, v15, v16, f, sl, tl, u, v, rfl, s5, F5, I5, hu5, hv5, d5⟩
    refine ⟨_, rfl, gs, _, rfl, ints_seq F5.s, _, _, rfl, rfl, _, rfl, ?_⟩
    rw [show ((List.range m).map sl).sum = S m sl from sm_S m sl]
    by_cases hpos : 0 < S m sl
    · rw [decide_eq_true (show S m sl > 0 by omega)]
      refine iteT ?_
      refine ⟨_, rfl, _, rfl, _, rfl, g, ua, va, m, n, c, u, v, rfl, ⟨rg0, hg.same s5⟩, hu5, hv5, hm, hn, fun H6 gu ru s6 hgu ogu => ?_⟩
      have F6 := F5.same s6
      refine ⟨_, rfl, _, rfl, _, rfl, _, rfl, gu, D, gs, gt, m, n, tB c u v, f, sl, tl, ru, r, rfl, ogu, F6.f, F6.s, F6.t, hm, hn, fun H7 T A B sf tf ρ gv s7 hT oT hA hB hA0 hB0 hAB Fd hgo => ?_⟩
      have F7 := F6.same s7
      have hu7 := s7 _ _ (s6 _ _ hu5)
      have hv7 := s7 _ _ (s6 _ _ hv5)
      have s57 := s5.trans (s6.trans s7)
      refine ⟨T, _, rfl, .inl (.inl oT), rfl, _, _, rfl, _, _, rfl, _, _, rfl, rfl, ?_⟩
      refine ⟨_, rfl, rfl, _, rfl, ?_⟩
      rcases hgo with ⟨go, hgn, rfl, htg, htl⟩ | ⟨rfl, hcl⟩
      · refine iteT ?_
        refine ⟨_, rfl, _, rfl, _, rfl, go, A, B, m, n, tB c u v, f, sl, sf, tf, ρ, rfl, hA, hB, hm, Fd, hgn, htg, fun H8 T2 G L gl ll st s8 hT2 oT2 hG0 hL0 pG pL hp => ?_⟩
        refine ⟨T2, _, rfl, .inl (.inl oT2), rfl, _, _, rfl, _, _, rfl, rfl, ?_⟩
        have F8 := F7.same s8
        have farG : G ≠ gs ∧ G ≠ gt ∧ ∀ i, i < m → G ≠ r i := ⟨(ne_of_none F7.s hG0).symm, (ne_of_none F7.t hG0).symm, fun i hi => (ne_of_none (F7.f.r i hi) hG0).symm⟩
        have farL : L ≠ gs ∧ L ≠ gt ∧ ∀ i, i < m → L ≠ r i := ⟨(ne_of_none F7.s hL0).symm, (ne_of_none F7.t hL0).symm, fun i hi => (ne_of_none (F7.f.r i hi) hL0).symm⟩
        refine ⟨_, rfl, _, rfl, _, rfl, _, rfl, _, rfl, D, gs, gt, G, L, r, m, n, tB c u v, f, sl, tl, go, st, gl, ll, rfl, F8, ad, pG, pL, farG, farL, hp, htl, fun H9 a sf9 F9 ha1 ha2 ha3 ha4 => ?_⟩
        have s9 : Same H H9 := sf9.sameH (s57.trans s8) hgs0 hgt0 p.fr
        have I9 := I5.aug hp (by omega) ha2 ha3 ha4
        have hu9 : IntsAt H9 ua m u := sf9 _ _ (s8 _ _ hu7) uf.1 uf.2.1 uf.2.2
        have hv9 : IntsAt H9 va n v := sf9 _ _ (s8 _ _ hv7) vf.1 vf.2.1 vf.2.2
        refine ⟨⟨_, _, _, _, _, _, _, _, _, _, _, _, u, v, rfl, s9, F9, I9, hu9, hv9, ⟨d5.fe, fun i hi j hj e => ?_⟩⟩, ?_⟩
        · rcases augd_pos (by omega) e with z | z
          · exact d5.ti i hi j hj z
          · exact tB_iff.mp (hp.g _ z).2.2
        · show (sumAt H9 gs).toNat + (dot m n (pc c) x - dual m n s t (valsAt H9 ua) (valsAt H9 va)).toNat < (sumAt H5 gs).toNat + (dot m n (pc c) x - dual m n s t (valsAt H5 ua) (valsAt H5 va)).toNat
          rw [sumAt_eq F9.s, sumAt_eq F5.s, S_fset sl hp.sm, dual_vals s t hu9 hv9, dual_vals s t hu5 hv5]
          have h1 := S_ge_one I5.sn hp.sm
          have h2 := hp.sp
          omega
      · refine iteF ?_
        refine ⟨_, rfl, _, rfl, _, rfl, _, rfl, _, rfl, g, ua, va, A, B, m, n, c, u, v, sf, tf, rfl, ⟨rg0, hg.same s57⟩, hu7, hv7, hA, hB, hm, hn, fun H8 gap s8 Gp => ?_⟩
        have F8 := F7.same s8
        have s58 := s57.trans s8
        have hP : ∀ i, i < m → 0 < sl i → (sf i).isSome = true := fun i hi q => by rw [Fd.a i hi q]; rfl
        have hT' : ∀ j, j < n → (tf j).isSome = true → tl j ≤ 0 := fun j hj hT => hcl.e j hj (by intro z; rw [z] at hT; cases hT)
        have hin : ∀ j, j < n → (tf j).isSome = true → ∀ i, i < m → 0 < f i j → (sf i).isSome = true := fun j hj hT i hi q => by
          have := hcl.x j hj (by intro z; rw [z] at hT; cases hT) i hi q
          cases e : sf i with
          | none => exact absurd e this
          | some _ => rfl
        have hout : ∀ i, i < m → (sf i).isSome = true → ∀ j, j < n → 0 < f i j → (tf j).isSome = true := fun i hi hP j hj q => by
          have := hcl.y i hi (by intro z; rw [z] at hP; cases hP) j hj (tB_iff.mpr (d5.ti i hi j hj q))
          cases e : tf j with
          | none => exact absurd e this
          | some _ => rfl
        obtain ⟨gp, rfl⟩ : ∃ gp, gap = some gp := by
          cases gap with
          | some gp => exact ⟨gp, rfl⟩
          | none =>
            exfalso
            have hz := cut_full (P := fun i => (sf i).isSome) (T := fun j => (tf j).isSome) I5 hx.nn hx.r (fun j hj => Int.le_of_eq (hx.c j hj))
              (fun i hi hP j hj q => by
                have h1 := hx.sup i hi j hj q
                cases e : tf j with
                | some _ => rfl
                | none =>
                  cases ec : c i j with
                  | none => rw [ec] at h1; cases h1
                  | some p0 =>
                    obtain ⟨z, z1, _⟩ := Gp.lo i j ⟨hi, hj, (by intro z; rw [z] at hP; cases hP), e⟩ p0 ec
                    cases z1) hin hT' hP
            have : S m sl = 0 := by rw [S_congr hz]; exact S_zero m
            omega
        have hgp : 0 < gp := by
          obtain ⟨i, j, p0, ⟨q1, q2, q3, q4⟩, e, e2⟩ := Gp.at_ gp rfl
          have h1 := d5.fe i q1 j q2 p0 e
          by_cases z : p0 = u i + v j
          · have := hcl.y i q1 q3 j q2 (tB_iff.mpr (by rw [e, z]))
            exact absurd q4 this
          · omega
        have hmv := d5.move (s := s) (t := t) (P := fun i => (sf i).isSome) (T := fun j => (tf j).isSome) (g := gp) I5 (by omega) (fun i hi hP j hj hT p0 e => by
          obtain ⟨z, z1, z2⟩ := Gp.lo i j ⟨hi, hj, (by intro z; rw [z] at hP; cases hP), by cases e3 : tf j with
            | none => rfl
            | some _ => rw [e3] at hT; cases hT⟩ p0 e
          cases z1
          exact z2) hout hin hT' hP
        refine ⟨_, rfl, ga, _, rfl, .inl (SqL.of (s58 _ _ ha)), ?_⟩
        rw [rg_len]
        refine ⟨_, rfl, by omega, by omega, ?_⟩
        have hua8 := s8 _ _ hu7
        have hva8 := s8 _ _ hv7
        have hAu : A ≠ ua := (ne_of_none (s6 _ _ hu5) hA0).symm
        have hAv : A ≠ va := (ne_of_none (s6 _ _ hv5) hA0).symm
        have hBu : B ≠ ua := (ne_of_none (s6 _ _ hu5) hB0).symm
        have hBv : B ≠ va := (ne_of_none (s6 _ _ hv5) hB0).symm
        have flu : ∀ {H' : Hp} {o : HO} {w : Addr}, (w ≠ gs ∧ w ≠ gt ∧ ∀ i, i < m → w ≠ r i) → w ≠ D → FlAt H' D gs gt r m n f sl tl → FlAt (upd H' w o) D gs gt r m n f sl tl := fun h1 h2 F => ⟨⟨(upd_ne h2.symm).trans F.f.o, fun i hi => (upd_ne (h1.2.2 i hi).symm).trans (F.f.r i hi)⟩, (upd_ne h1.1.symm).trans F.s, (upd_ne h1.2.1.symm).trans F.t⟩
        refine for_it (walk_rg (n := m)) (fun k σ H' => ∃ (v4 : Option V), σ = [some (.ref g), some (.ref ga), some (.ref gb), some (.ref D), v4, v5, some (.ref gs), some (.ref gt), some (.ref ua), some (.ref va), some (.ref gu), some (.ref A), some (.ref B), some .non, v14, v15, some (.int gp)] ∧ Same H H' ∧ FlAt H' D gs gt r m n f sl tl ∧ RowAt H' A m sf ∧ RowAt H' B n tf ∧
            IntsAt H' ua m (mvK (fun i => (sf i).isSome) gp u k) ∧ IntsAt H' va n v)
          ⟨v4, rfl, s58, F8, s8 _ _ hA, s8 _ _ hB, by rw [mvK_zero]; exact hua8, hva8⟩ (fun _ _ _ _ _ => trivial) ?_ ?_
        · rintro i x σ H' H'' hi ⟨v4, rfl, s, F, hA, hB, hu, hv⟩ ⟨rfl, rfl⟩
          refine ⟨_, rfl, _, rfl, A, _, _, _, rfl, rfl, SqL.of hA, atR _ hi, rfl, _, rfl, ?_⟩
          cases e : sf i with
          | none =>
            refine ⟨_, rfl, s, F, hA, hB, ?_, hv⟩
            rw [mvK_no (by rw [e]; rfl)]
            exact hu
          | some z0 =>
            refine ⟨_, rfl, _, rfl, ua, _, i, _, rfl, rfl, SqL.of hu, rg_at _ hi, _, rfl, _, _, rfl, rfl, ua, _, i, rfl, rfl, hu, by rw [rg_len]; exact hi, ?_⟩
            refine ⟨_, rfl, Same.up s hua0, flu uf uD F, (upd_ne hAu).trans hA, (upd_ne hBu).trans hB, ?_, (upd_ne nuv.symm).trans hv⟩
            show upd _ _ _ _ = _
            rw [upd_same, rg_set]
            congr 2
            refine rg_congr fun l _ => ?_
            rw [← mvK_yes (p := fun i => (sf i).isSome) (k := i) (by rw [e]; rfl), mvK_at]
        rintro σ H9 ⟨v4, rfl, s9, F9, hA9, hB9, hu9, hv9⟩
        have hu9' : IntsAt H9 ua m (up (fun i => (sf i).isSome) gp u) := by
          show H9 ua = _
          rw [hu9]
          congr 2
          refine rg_congr fun l hl => ?_
          rw [mvK_end hl]; rfl
        refine ⟨_, rfl, gb, _, rfl, .inl (SqL.of (s9 _ _ hb)), ?_⟩
        rw [rg_len]
        refine ⟨_, rfl, by omega, by omega, ?_⟩
        refine for_it (walk_rg (n := n)) (fun k σ H' => ∃ (v5 : Option V), σ = [some (.ref g), some (.ref ga), some (.ref gb), some (.ref D), v4, v5, some (.ref gs), some (.ref gt), some (.ref ua), some (.ref va), some (.ref gu), some (.ref A), some (.ref B), some .non, v14, v15, some (.int gp)] ∧ Same H H' ∧ FlAt H' D gs gt r m n f sl tl ∧ RowAt H' B n tf ∧
            IntsAt H' ua m (up (fun i => (sf i).isSome) gp u) ∧ IntsAt H' va n (mvK (fun i => (tf i).isSome) (-gp) v k))
          ⟨v5, rfl, s9, F9, hB9, hu9', by rw [mvK_zero]; exact hv9⟩ (fun _ _ _ _ _ => trivial) ?_ ?_
        · rintro i x σ H' H'' hi ⟨v5, rfl, s, F, hB, hu, hv⟩ ⟨rfl, rfl⟩
          refine ⟨_, rfl, _, rfl, B, _, _, _, rfl, rfl, SqL.of hB, atR _ hi, rfl, _, rfl, ?_⟩
          cases e : tf i with
          | none =>
            refine ⟨_, rfl, s, F, hB, hu, ?_⟩
            rw [mvK_no (by rw [e]; rfl)]
            exact hv
          | some z0 =>
            refine ⟨_, rfl, _, rfl, va, _, i, _, rfl, rfl, SqL.of hv, rg_at _ hi, _, rfl, _, _, rfl, rfl, va, _, i, rfl, rfl, hv, by rw [rg_len]; exact hi, ?_⟩
            refine ⟨_, rfl, Same.up s hva0, flu vf vD F, (upd_ne hBv).trans hB, (upd_ne nuv).trans hu, ?_⟩
            show upd _ _ _ _ = _
            rw [upd_same, rg_set]
            congr 2
            refine rg_congr fun l _ => ?_
            rw [← mvK_yes (p := fun i => (tf i).isSome) (k := i) (by rw [e]; rfl), mvK_at]
            rfl
        rintro σ H10 ⟨v5, rfl, s10, F10, hB10, hu10, hv10⟩
        have hv10' : IntsAt H10 va n (dn (fun j => (tf j).isSome) gp v) := by
          show H10 va = _
          rw [hv10]
          congr 2
          refine rg_congr fun l hl => ?_
          rw [mvK_end hl]; rfl
        refine ⟨⟨_, _, _, _, _, _, _, _, _, f, sl, tl, _, _, rfl, s10, F10, I5, hu10, hv10', hmv.1⟩, ?_⟩
        show (sumAt H10 gs).toNat + (dot m n (pc c) x - dual m n s t (valsAt H10 ua) (valsAt H10 va)).toNat < (sumAt H5 gs).toNat + (dot m n (pc c) x - dual m n s t (valsAt H5 ua) (valsAt H5 va)).toNat
        rw [sumAt_eq F10.s, sumAt_eq F5.s, dual_vals s t hu10 hv10', dual_vals s t hu5 hv5, hmv.2]
        have hw := hmv.1.weak hx
        rw [hmv.2] at hw
        have hpp : 1 ≤ gp * S m sl := Int.mul_pos hgp hpos
        omega
    · rw [decide_eq_false (show ¬ S m sl > 0 by omega)]
      refine iteF ?_
      obtain ⟨hF, hbest⟩ := d5.best I5 hbal (by omega)
      refine ⟨_, rfl, _, rfl, _, rfl, by show 3 ≤ sizeLine; decide, fun T hT => ?_⟩
      have s6 := Same.new hT (o := .tup [.ref D, .ref ua, .ref va])
      exact k _ T D ua va r f u v (s5.trans s6) (s5.free hT) upd_same (F5.f.same s6) (s6 _ _ hu5) (s6 _ _ hv5) hF hbest
end
end K78
end
section
set_option Elab.async false
set_option linter.all false
set_option maxRecDepth 100000
set_option maxHeartbeats 4000000
namespace K78
open PySem PySem.Spec PyProof.Rows L2 He
section
variable {P : Program} {w : World} {K : PySem.W.Frag} {mg : Str → Option Value} {base : Heap}
def sp_turned_grid (K : PySem.W.Frag) : Sp := fun vs H Q _ => ∃ (g : Addr) (m n : Nat) (F : Nat → Nat → V) (r : Nat → Addr), vs = [.ref g] ∧ RowsAt H g m n F r ∧ 1 ≤ m ∧ m ≤ 9 ∧ n ≤ 9 ∧ ∀ H' D r', Same H H' → H D = none → RowsAt H' D n m (fun j i => F i j) r' → Q (.ref D) H'
theorem ok_turned_grid (E : TX K mg) : FnOk P w K mg base CX0 1 (a_turned_grid K) (fdOf K (a_turned_grid K)) P_turned_grid (sp_turned_grid K) := by
  refine (f_turned_grid E).ok sc_turned_grid (fun vs H Q E' h => ?_) (fun cdv A outer s H vs Q E' hr h => ?_)
  · obtain ⟨_, _, _, _, _, rfl, _⟩ := h; rfl
  · obtain ⟨g, m, n, F, r, rfl, hg, hm1, hm, hn, k⟩ := h
    refine ⟨_, PSs.nox (pss_one (ps_ret (pe_lc (own := [("column", 1)]) rfl sc_turned_grid.nd (pi_range1 rfl (fr_range (K := K) E) (pa_cons (pe_callB call_len_seq (by rfl) (fr_len (K := K) E) boot_len (pa_cons (pe_ix ix_list (pv 0) pe_int (fun _ _ => rfl)) pa_nil)) pa_nil)) (blkOk_by (own := [("column", 1)]) (N := N_turned_grid) (sc := defScope s_turned_grid) (by decide +kernel)) (fun _ _ _ _ _ => (pg_name (i := 1) sc_turned_grid.nd rfl (Or.inr rfl))) (fun _ _ _ _ _ => pts_nil) (fun _ _ _ _ _ => (pe_lc (own := [("row", 2)]) rfl sc_turned_grid.nd (pi_listK (K := K) rfl (pv 0)) (blkOk_by (own := [("row", 2)]) (N := N_turned_grid) (sc := relS (cSc s_turned_grid 0) (defScope s_turned_grid)) (by decide +kernel)) (fun _ _ _ _ _ => (pg_name (i := 2) sc_turned_grid.nd rfl (Or.inl rfl))) (fun _ _ _ _ _ => pts_nil) (fun _ _ _ _ _ => (pe_ix (ix_listK (K := K) rfl) (pv 2) (pv 1) (fun _ _ => rfl)))))))), ?_⟩
    have ix0 : atI (rg m fun i => V.ref (r i)) 0 = some (V.ref (r 0)) := atR (i := 0) _ hm1
    refine ⟨_, rfl, g, _, _, _, rfl, rfl, SqL.of hg.o, ix0, _, _, rfl, .inl (SqL.of (hg.r 0 hm1)), ?_⟩
    rw [rg_len]
    refine ⟨_, rfl, by omega, by omega, fun D hD => ?_⟩
    refine walk_go (walk_rg (n := n)) (fun j H' => ∃ r', Part H H' D j m (fun j i => F i j) r') ⟨_, Part.nil hD⟩ (fun _ _ _ _ => trivial) ?_ ?_
    · rintro j x H' H'' hj ⟨r', p⟩ ⟨rfl, rfl⟩
      refine ⟨rfl, _, rfl, g, rfl, ⟨_, SqL.of (p.s _ _ hg.o)⟩, fun D2 hD2 => ?_⟩
      refine walk_go (walk_list (xs := rg m fun i => .ref (r i))) (fun i H2 => Same H'' H2 ∧ H2 D2 = some (.lst (rg i fun i => F i j))) ⟨Same.new hD2, upd_same⟩ (fun i H2 _ ⟨s2, _⟩ => SqL.of (s2 _ _ (p.s _ _ hg.o))) ?_ ?_
      · rintro i x H2 H3 hi ⟨s2, o⟩ ⟨rfl, hx⟩
        obtain ⟨hi', rfl⟩ := rg_of hx
        exact ⟨rfl, _, rfl, _, rfl, r i, _, _, _, rfl, rfl, SqL.of (s2 _ _ (p.s _ _ (hg.r i hi'))), atR (fun j => F i j) hj, _, o, by rw [rg_len]; exact Nat.lt_of_lt_of_le hi' (Nat.le_trans hm (by decide)), Same.up s2 hD2, by rw [upd_same, rg_snoc i fun i => F i j]⟩
      · rintro H2 ⟨s2, o⟩
        rw [rg_len] at o
        exact ⟨_, s2 _ _ p.o, by rw [rg_len]; exact Nat.lt_of_lt_of_le hj (Nat.le_trans hn (by decide)), _, p.step hD s2 hD2 o⟩
    · rintro H' ⟨r', p⟩
      exact k H' D r' p.s hD p.rows
/-- a serving that fits and is full -/
structure Fit (m n : Nat) (c : Nat → Nat → Option Int) (a b : Nat → Int) (x : Nat → Nat → Int) : Prop where
  nn : ∀ i j, 0 ≤ x i j
  sup : ∀ i, i < m → ∀ j, j < n → 0 < x i j → (c i j).isSome = true
  r : ∀ i, i < m → row n x i ≤ a i
  c : ∀ j, j < n → col m x j ≤ b j
  f1 : S m a < S n b → ∀ i, i < m → row n x i = a i
  f2 : S n b ≤ S m a → ∀ j, j < n → col m x j = b j
def sp_shortage (K : PySem.W.Frag) : Sp := fun vs H Q _ => ∃ (t p : Addr) (m n : Nat) (a b : Nat → Int) (c : Nat → Nat → Option Int) (x : Nat → Nat → Int), vs = [.ref t, .ref p] ∧ AmtAt K H p m n a b ∧ TabAt K H t m n c ∧ dim m n ∧ nonneg m n a b ∧ Fit m n c a b x ∧ ∀ H', Same H H' → Q .non H'
theorem ok_shortage (E : TX K mg) : FnOk P w K mg base CX0 4 (a_shortage K) (fdOf K (a_shortage K)) P_shortage (sp_shortage K) := by
  refine (f_shortage E).ok sc_shortage (fun vs H Q E' h => ?_) (fun cdv A outer s H vs Q E' hr h => ?_)
  · obtain ⟨_, _, _, _, _, _, _, _, rfl, _⟩ := h; rfl
  · obtain ⟨t, p, m, n, a, b, c, x, rfl, hA, hT, hd, ⟨hna, hnb⟩, hF, k⟩ := h
    refine ⟨_, PSs.nox (pss_cons (ps_expr (pe_call (ok_check_size (K := K) E) (hr.mono (by decide)) rfl (g_check_size (K := K) E) (k_check_size (K := K) E) (b_check_size (K := K) E) .nil pass0 (pa_cons (pv 0) (pa_cons (pv 1) pa_nil))))
    (pss_cons (ps_setLc (i := 2) (own := [("row", 3)]) rfl sc_shortage.nd rfl rfl (sw_true rfl rfl rfl (by decide +kernel)) (pi_list (pe_meth0 (pv 0) (cl_Table (K := K) E) (m_Table_rows (K := K) E) (ok_Table_rows (K := K) E) (hr.mono (by decide)) (b_Table_rows (K := K) E) .nil pass0)) (blkOk_by (own := [("row", 3)]) (N := N_shortage) (sc := defScope s_shortage) (by decide +kernel)) (fun _ _ _ _ _ => (pg_name (i := 3) sc_shortage.nd rfl (Or.inl rfl))) (fun _ _ _ _ _ => pts_nil) (fun _ _ _ _ _ => (pe_lc (own := [("price", 4)]) rfl sc_shortage.nd (pi_listK (K := K) rfl (pv 3)) (blkOk_by (own := [("price", 4)]) (N := N_shortage) (sc := relS (cSc s_shortage 1) (defScope s_shortage)) (by decide +kernel)) (fun _ _ _ _ _ => (pg_name (i := 4) sc_shortage.nd rfl (Or.inl rfl))) (fun _ _ _ _ _ => pts_nil) (fun _ _ _ _ _ => (pe_cmpR op_notN (pv 4) pe_non (nomark _))))))
    (pss_cons (ps_set (i := 5) sc_shortage.nd rfl (Or.inl rfl) (pe_meth0 (pv 1) (cl_Amounts (K := K) E) (m_Amounts_stocks (K := K) E) (ok_Amounts_stocks (K := K) E) (hr.mono (by decide)) (b_Amounts_stocks (K := K) E) .nil pass0))
    (pss_cons (ps_set (i := 6) sc_shortage.nd rfl (Or.inl rfl) (pe_meth0 (pv 1) (cl_Amounts (K := K) E) (m_Amounts_wishes (K := K) E) (ok_Amounts_wishes (K := K) E) (hr.mono (by decide)) (b_Amounts_wishes (K := K) E) .nil pass0))
    (pss_cons (ps_if (pt_cmpR op_lt (pe_meth0 (pv 1) (cl_Amounts (K := K) E) (m_Amounts_over (K := K) E) (ok_Amounts_over (K := K) E) (hr.mono (by decide)) (b_Amounts_over (K := K) E) .nil pass0) pe_int (nomark _)) (pss_cons (ps_asg (pe_call (ok_greatest_flow (K := K) E) (hr.mono (by decide)) rfl (g_greatest_flow (K := K) E) (k_greatest_flow (K := K) E) (b_greatest_flow (K := K) E) .nil pass0 (pa_cons (pv 2) (pa_cons (pv 5) (pa_cons (pv 6) pa_nil)))) (pg_tup rfl (pgs_cons (pg_name (i := 7) sc_shortage.nd rfl (Or.inl rfl)) (pgs_cons (pg_name (i := 8) sc_shortage.nd rfl (Or.inl rfl)) pgs_nil))))
    (pss_one (ps_set (i := 9) sc_shortage.nd rfl (Or.inl rfl) pe_str))) (pss_cons (ps_asg (pe_call (ok_greatest_flow (K := K) E) (hr.mono (by decide)) rfl (g_greatest_flow (K := K) E) (k_greatest_flow (K := K) E) (b_greatest_flow (K := K) E) .nil pass0 (pa_cons (pe_call (ok_turned_grid (K := K) E) (hr.mono (by decide)) rfl (g_turned_grid (K := K) E) (k_turned_grid (K := K) E) (b_turned_grid (K := K) E) .nil pass0 (pa_cons (pv 2) pa_nil)) (pa_cons (pv 6) (pa_cons (pv 5) pa_nil)))) (pg_tup rfl (pgs_cons (pg_name (i := 7) sc_shortage.nd rfl (Or.inl rfl)) (pgs_cons (pg_name (i := 8) sc_shortage.nd rfl (Or.inl rfl)) pgs_nil))))
    (pss_one (ps_set (i := 9) sc_shortage.nd rfl (Or.inl rfl) pe_str))))
    (pss_cons (ps_if (pt_cmpR op_eq (pe_callB (cr_sum rfl) (by rfl) (fr_sum (K := K) E) (by decide +kernel) (pa_cons (pv 7) pa_nil)) pe_int (nomark _)) (pss_one (ps_ret pe_non)) pss_nil)
    (pss_one (ps_ret (pe_tup (pa_cons (pv 9) (pa_cons (pv 8) pa_nil))))))))))), ?_⟩
    obtain ⟨dt, g0, hpt, _⟩ := id hT
    obtain ⟨da, sa, ta, hpa, _⟩ := id hA
    have hm9 : m ≤ 9 := Nat.le_trans hd.2.1 (by decide)
    have hn9 : n ≤ 9 := Nat.le_trans hd.2.2.2 (by decide)
    refine ⟨_, rfl, _, rfl, t, p, m, n, a, b, c, rfl, hA, hT, hd, ?_⟩
    refine ⟨_, rfl, t, dt, _, rfl, hpt, rfl, t, m, n, c, rfl, hT, hd.2.1, fun H1 g s1 hg0 ⟨r, hg⟩ => ?_⟩
    refine ⟨g, rfl, ⟨_, SqL.of hg.o⟩, fun D hD => ?_⟩
    refine walk_go (walk_list (xs := rg m fun i => .ref (r i))) (fun i H' => ∃ r', Part H1 H' D i n (fun i j => .bl (c i j).isSome) r') ⟨_, Part.nil hD⟩ (fun i H' _ ⟨r', p⟩ => SqL.of (p.s _ _ hg.o)) ?_ ?_
    · rintro i x H' H'' hi ⟨r', p⟩ ⟨rfl, hx⟩
      obtain ⟨hi', rfl⟩ := rg_of hx
      refine ⟨rfl, _, rfl, r i, rfl, ⟨_, SqL.of (p.s _ _ (hg.r i hi'))⟩, fun D2 hD2 => ?_⟩
      refine walk_go (walk_list (xs := rg n fun j => ov (c i j))) (fun j H2 => Same H'' H2 ∧ H2 D2 = some (.lst (rg j fun j => .bl (c i j).isSome))) ⟨Same.new hD2, upd_same⟩ (fun j H2 _ ⟨s2, _⟩ => SqL.of (s2 _ _ (p.s _ _ (hg.r i hi')))) ?_ ?_
      · rintro j x H2 H3 hj ⟨s2, o⟩ ⟨rfl, hx⟩
        obtain ⟨hj', rfl⟩ := rg_of hx
        have hfin : upd H3 D2 (.lst ((rg j fun j => V.bl (c i j).isSome) ++ [.bl (c i j).isSome])) D2 = some (.lst (rg (j + 1) fun j => .bl (c i j).isSome)) := by rw [upd_same, rg_snoc j fun j => V.bl (c i j).isSome]
        have hsu : Same H'' (upd H3 D2 (.lst ((rg j fun j => V.bl (c i j).isSome) ++ [.bl (c i j).isSome]))) := Same.up s2 hD2
        have hv : V.bl (!decide (ov (c i j) = V.non)) = V.bl (c i j).isSome := by cases c i j <;> rfl
        refine ⟨rfl, _, rfl, rfl, _, o, by rw [rg_len]; exact Nat.lt_of_lt_of_le hj' (Nat.le_trans hn9 (by decide)), ?_⟩
        rw [hv]
        exact ⟨hsu, hfin⟩
      · rintro H2 ⟨s2, o⟩
        rw [rg_len] at o
        exact ⟨_, s2 _ _ p.o, by rw [rg_len]; exact Nat.lt_of_lt_of_le hi' (Nat.le_trans hm9 (by decide)), _, p.step hD s2 hD2 o⟩
    rintro H2 ⟨ru, pu⟩
    rw [rg_len] at pu
    have s2 := s1.trans pu.s
    refine ⟨_, rfl, p, da, _, rfl, s2 _ _ hpa, rfl, p, m, n, a, b, rfl, hA.same s2, fun H3 S' s3 _ iS => ?_⟩
    have s23 := s2.trans s3
    refine ⟨_, rfl, p, da, _, rfl, s23 _ _ hpa, rfl, p, m, n, a, b, rfl, hA.same s23, fun H4 W' s4 _ iW => ?_⟩
    have s24 := s23.trans s4
    refine ⟨_, rfl, p, da, _, rfl, s24 _ _ hpa, rfl, p, m, n, a, b, rfl, hA.same s24, _, _, rfl, rfl, _, rfl, ?_⟩
    have hU := (pu.rows.same s3).same s4
    have iS4 := s4 _ _ iS
    rw [sm_S, sm_S]
    have fin : ∀ {H5 : Hp} {T S2 : Addr} {R : V} {v : Nat → Int} {l : Nat}, Same H4 H5 → IntsAt H5 S2 l v → (∀ i, i < l → v i = 0) → Same H H5 ∧ SqL K H5 S2 (((List.range l).map v).map V.int) ∧ ((List.range l).map v).sum = 0 := fun {H5 T S2 R v l} s5 i5 hz =>
      ⟨s24.trans s5, ints_seq i5, (sm_S l v).trans ((S_congr hz).trans (S_zero l))⟩
    refine ifs_go (fun σ H' => ∃ (S2 : Addr) (R : V) (l : Nat) (v : Nat → Int) (rest : Option V), σ[7]? = some (some (.ref S2)) ∧ Same H4 H' ∧ IntsAt H' S2 l v ∧ ∀ i, i < l → v i = 0) (fun hc rest => ?_) (fun hc rest => ?_) ?_
    · have hlt : S m a < S n b := by have := of_decide_eq_true hc; omega
      refine ⟨_, rfl, _, rfl, _, rfl, D, S', W', m, n, fun i j => (c i j).isSome, a, b, ru, x, rfl, hU, iS4, iW, hm9, hn9, hna, hnb, hF.nn, hF.sup, hF.f1 hlt, hF.c, fun H5 T S2 R v s5 hT oT iS2 hz => ?_⟩
      refine ⟨T, _, rfl, .inl (.inl oT), rfl, _, _, rfl, _, _, rfl, rfl, ?_⟩
      exact rest _ _ ⟨S2, R, m, v, none, rfl, s5, iS2, hz⟩
    · have hge : S n b ≤ S m a := by have := of_decide_eq_false hc; omega
      refine ⟨_, rfl, D, m, n, _, ru, rfl, hU, hd.1, hm9, hn9, fun H5 D3 r3 s5 hD3 hU3 => ?_⟩
      refine ⟨_, rfl, _, rfl, D3, W', S', n, m, fun j i => (c i j).isSome, b, a, r3, fun j i => x i j, rfl, hU3, s5 _ _ iW, s5 _ _ iS4, hn9, hm9, hnb, hna, fun j i => hF.nn i j, fun j hj i hi q => hF.sup i hi j hj q, hF.f2 hge, hF.r, fun H6 T S2 R v s6 hT oT iS2 hz => ?_⟩
      refine ⟨T, _, rfl, .inl (.inl oT), rfl, _, _, rfl, _, _, rfl, rfl, ?_⟩
      exact rest _ _ ⟨S2, R, n, v, none, rfl, s5.trans s6, iS2, hz⟩
    · rintro σ H5 ⟨S2, R, l, v, _, eS, s5, iS2, hz⟩
      obtain ⟨f1, f2, f3⟩ := fin (T := 0) (R := .non) s5 iS2 hz
      refine ⟨_, eS, S2, _, rfl, f2, ?_⟩
      rw [f3]
      exact ⟨rfl, _, rfl, k H5 f1⟩
end
end K78
end
section
set_option Elab.async false
set_option linter.all false
set_option maxRecDepth 100000
set_option maxHeartbeats 4000000
namespace K78
open PySem PySem.Spec PyProof.Rows L2 He
/-! the extra line -/
def exm (m : Nat) (o : Int) : Nat := if o < 0 then m + 1 else m
def exn (n : Nat) (o : Int) : Nat := if 0 < o then n + 1 else n
def exC (m n : Nat) (o : Int) (c : Nat → Nat → Option Int) : Nat → Nat → Option Int := fun i j => if (0 < o ∧ j = n) ∨ (o < 0 ∧ i = m) then some 0 else c i j
def exS (m : Nat) (o : Int) (a : Nat → Int) : Nat → Int := fun i => if o < 0 ∧ i = m then -o else a i
def exT (n : Nat) (o : Int) (b : Nat → Int) : Nat → Int := fun j => if 0 < o ∧ j = n then o else b j
section
variable {P : Program} {w : World} {K : PySem.W.Frag} {mg : Str → Option Value} {base : Heap}
def sp_balanced (K : PySem.W.Frag) : Sp := fun vs H Q _ => ∃ (g ga gb : Addr) (m n : Nat) (c : Nat → Nat → Option Int) (a b : Nat → Int), vs = [.ref g, .ref ga, .ref gb] ∧ GridAt H g m n c ∧ IntsAt H ga m a ∧ IntsAt H gb n b ∧ m ≤ 8 ∧ n ≤ 8 ∧
  ∀ H' T g' ga' gb', Same H H' → H T = none → H' T = some (.tup [.ref g', .ref ga', .ref gb']) → GridAt H' g' (exm m (S m a - S n b)) (exn n (S m a - S n b)) (exC m n (S m a - S n b) c) → IntsAt H' ga' (exm m (S m a - S n b)) (exS m (S m a - S n b) a) → IntsAt H' gb' (exn n (S m a - S n b)) (exT n (S m a - S n b) b) → Q (.ref T) H'
theorem ok_balanced (E : TX K mg) : FnOk P w K mg base CX0 1 (a_balanced K) (fdOf K (a_balanced K)) P_balanced (sp_balanced K) := by
  refine (f_balanced E).ok sc_balanced (fun vs H Q E' h => ?_) (fun cdv A outer s H vs Q E' hr h => ?_)
  · obtain ⟨_, _, _, _, _, _, _, _, rfl, _⟩ := h; rfl
  · obtain ⟨g, ga, gb, m, n, c, a, b, rfl, ⟨r, hg⟩, ha, hb, hm, hn, k⟩ := h
    refine ⟨_, PSs.nox (pss_cons (ps_set (i := 3) sc_balanced.nd rfl (Or.inl rfl) (pe_op op_sub (pe_callB (cr_sum rfl) (by rfl) (fr_sum (K := K) E) (by decide +kernel) (pa_cons (pv 1) pa_nil)) (pe_callB (cr_sum rfl) (by rfl) (fr_sum (K := K) E) (by decide +kernel) (pa_cons (pv 2) pa_nil))))
    (pss_cons (ps_if (pt_cmpR op_gt (pv 3) pe_int (nomark _)) (pss_one (ps_ret (pe_tup (pa_cons (pe_lc (own := [("row", 4)]) rfl sc_balanced.nd (pi_list (pv 0)) (blkOk_by (own := [("row", 4)]) (N := N_balanced) (sc := defScope s_balanced) (by decide +kernel)) (fun _ _ _ _ _ => (pg_name (i := 4) sc_balanced.nd rfl (Or.inl rfl))) (fun _ _ _ _ _ => pts_nil) (fun _ _ _ _ _ => (pe_op op_cat (pv 4) (pe_lst (pa_cons pe_int pa_nil))))) (pa_cons (pv 1) (pa_cons (pe_op op_cat (pv 2) (pe_lst (pa_cons (pv 3) pa_nil))) pa_nil)))))) pss_nil)
    (pss_cons (ps_if (pt_cmpR op_lt (pv 3) pe_int (nomark _)) (pss_one (ps_ret (pe_tup (pa_cons (pe_op op_cat (pv 0) (pe_lst (pa_cons (pe_lc (own := [("wish", 5)]) rfl sc_balanced.nd (pi_list (pv 2)) (blkOk_by (own := [("wish", 5)]) (N := N_balanced) (sc := defScope s_balanced) (by decide +kernel)) (fun _ _ _ _ _ => (pg_name (i := 5) sc_balanced.nd rfl (Or.inl rfl))) (fun _ _ _ _ _ => pts_nil) (fun _ _ _ _ _ => pe_int)) pa_nil))) (pa_cons (pe_op op_cat (pv 1) (pe_lst (pa_cons (pe_un un_neg (pv 3)) pa_nil))) (pa_cons (pv 2) pa_nil)))))) pss_nil)
    (pss_one (ps_ret (pe_tup (pa_cons (pv 0) (pa_cons (pv 1) (pa_cons (pv 2) pa_nil))))))))), ?_⟩
    refine ⟨_, rfl, ga, _, rfl, ints_seq ha, _, rfl, gb, _, rfl, ints_seq hb, _, _, rfl, rfl, ?_⟩
    rw [show ((List.range m).map a).sum = S m a from sm_S m a, show ((List.range n).map b).sum = S n b from sm_S n b]
    show gName 3 (V.int (S m a - S n b)) _ _ _
    obtain ⟨o, eo⟩ : ∃ o, S m a - S n b = o := ⟨_, rfl⟩
    rw [eo] at k ⊢
    refine ⟨_, rfl, _, _, rfl, rfl, _, rfl, ?_⟩
    by_cases h1 : 0 < o
    · rw [decide_eq_true (show o > 0 by omega)]
      have e1 : exm m o = m := if_neg (by omega)
      have e2 : exn n o = n + 1 := if_pos h1
      rw [e1, e2] at k
      refine iteT ?_
      refine ⟨_, rfl, g, rfl, ⟨_, SqL.of hg.o⟩, fun D hD => ?_⟩
      refine walk_go (walk_list (xs := rg m fun i => .ref (r i))) (fun i H' => ∃ r', Part H H' D i (n + 1) (fun i j => ov (exC m n o c i j)) r') ⟨_, Part.nil hD⟩ (fun i H' _ ⟨r', p⟩ => SqL.of (p.s _ _ hg.o)) ?_ ?_
      · rintro i x H' H'' hi ⟨r', p⟩ ⟨rfl, hx⟩
        obtain ⟨hi', rfl⟩ := rg_of hx
        refine ⟨rfl, _, rfl, Nat.succ_le_of_lt (by decide), fun z hz => ?_⟩
        have sz := Same.new hz (o := .lst [V.int 0])
        refine ⟨r i, z, _, _, rfl, rfl, sz _ _ (p.s _ _ (hg.r i hi')), upd_same, ?_, fun l hl => ?_⟩
        · rw [rg_len]
          exact Nat.le_trans (show n + 1 ≤ 9 by omega) (by decide)
        have sl := Same.new0 sz hl (o := .lst ((rg n fun j => ov (c i j)) ++ [V.int 0]))
        refine ⟨_, sl _ _ p.o, by rw [rg_len]; exact Nat.lt_of_lt_of_le hi' (Nat.le_trans hm (by decide)), _, p.step hD sl (sz.free hl) ?_⟩
        rw [upd_same, rg_snoc']
        congr 2
        refine rg_congr fun j hj => ?_
        unfold exC
        by_cases e : j = n
        · rw [if_pos e, if_pos (.inl ⟨h1, e⟩)]; rfl
        · rw [if_neg e, if_neg (by omega)]
      · rintro H1 ⟨r', p⟩
        rw [rg_len] at p
        refine ⟨_, rfl, _, rfl, _, rfl, Nat.succ_le_of_lt (by decide), fun z hz => ?_⟩
        have sz := Same.new hz (o := .lst [V.int o])
        refine ⟨gb, z, _, _, rfl, rfl, sz _ _ (p.s _ _ hb), upd_same, ?_, fun l hl => ?_⟩
        · rw [rg_len]
          exact Nat.le_trans (show n + 1 ≤ 9 by omega) (by decide)
        have sl := Same.new0 sz hl (o := .lst ((rg n fun j => .int (b j)) ++ [V.int o]))
        refine ⟨by show 3 ≤ sizeLine; decide, fun T hT => ?_⟩
        have sT := Same.new0 sl hT (o := .tup [.ref D, .ref ga, .ref l])
        refine k _ T D ga l (p.s.trans sT) (p.s.free (sl.free hT)) upd_same ⟨r', p.rows.same sT⟩ ?_ ?_
        · show _ = _
          rw [show (fun i => V.int (exS m o a i)) = fun i => V.int (a i) by
            funext i
            unfold exS
            rw [if_neg (by omega)]]
          exact sT _ _ (p.s _ _ ha)
        · show upd _ _ _ _ = _
          rw [upd_ne (ne_of_none upd_same hT), upd_same, rg_snoc']
          congr 2
          refine rg_congr fun j hj => ?_
          unfold exT
          by_cases e : j = n
          · rw [if_pos e, if_pos ⟨h1, e⟩]
          · rw [if_neg e, if_neg (by omega)]
    · rw [decide_eq_false (show ¬ o > 0 by omega)]
      refine iteF ?_
      refine ⟨_, rfl, _, _, rfl, rfl, _, rfl, ?_⟩
      have e2 : exn n o = n := if_neg h1
      by_cases h2 : o < 0
      · rw [decide_eq_true h2]
        have e1 : exm m o = m + 1 := if_pos h2
        rw [e1, e2] at k
        refine iteT ?_
        refine ⟨_, rfl, _, rfl, gb, rfl, ⟨_, SqL.of hb⟩, fun D hD => ?_⟩
        refine walk_go (walk_list (xs := rg n fun j => .int (b j))) (fun j H' => Same H H' ∧ H' D = some (.lst (rg j fun _ => .int 0))) ⟨Same.new hD, upd_same⟩ (fun j H' _ ⟨s, _⟩ => SqL.of (s _ _ hb)) ?_ ?_
        · rintro i x H' H'' hi ⟨s, o⟩ ⟨rfl, hx⟩
          rw [rg_len] at hi
          exact ⟨rfl, _, o, by rw [rg_len]; exact Nat.lt_of_lt_of_le hi (Nat.le_trans hn (by decide)), Same.up s hD, by rw [upd_same, rg_snoc i fun _ => V.int 0]⟩
        rintro H1 ⟨s1, oD⟩
        rw [rg_len] at oD
        refine ⟨Nat.succ_le_of_lt (by decide), fun z hz => ?_⟩
        have sz := Same.new hz (o := .lst [V.ref D])
        have hg1 := (hg.same s1).same sz
        refine ⟨g, z, _, _, rfl, rfl, hg1.o, upd_same, ?_, fun l hl => ?_⟩
        · rw [rg_len]
          exact Nat.le_trans (show m + 1 ≤ 9 by omega) (by decide)
        have sl := Same.new0 sz hl (o := .lst ((rg m fun i => .ref (r i)) ++ [V.ref D]))
        have sl1 := s1.trans sl
        refine ⟨_, rfl, _, rfl, _, rfl, Nat.succ_le_of_lt (by decide), fun y hy => ?_⟩
        have sy := Same.new hy (o := .lst [V.int (-o)])
        refine ⟨ga, y, _, _, rfl, rfl, sy _ _ (sl1 _ _ ha), upd_same, ?_, fun q hq => ?_⟩
        · rw [rg_len]
          exact Nat.le_trans (show m + 1 ≤ 9 by omega) (by decide)
        have sq := Same.new0 sy hq (o := .lst ((rg m fun i => .int (a i)) ++ [V.int (-o)]))
        refine ⟨_, rfl, by show 3 ≤ sizeLine; decide, fun T hT => ?_⟩
        have sT := Same.new0 sq hT (o := .tup [.ref l, .ref q, .ref gb])
        refine k _ T l q gb (sl1.trans sT) (sl1.free (sq.free hT)) upd_same ⟨fun i => if i = m then D else r i, ?_, fun i hi => ?_⟩ ?_ ?_
        · refine sT _ _ ?_
          rw [upd_same, rg_snoc']
          congr 2
          exact rg_congr fun i _ => by by_cases e : i = m <;> simp [e]
        · by_cases e : i = m
          · show _ = some (HO.lst (rg n fun j => ov (exC m n o c i j)))
            rw [if_pos e]
            refine (sT _ _ (sl _ _ oD)).trans ?_
            congr 2
            refine rg_congr fun j _ => ?_
            unfold exC
            rw [if_pos (.inr ⟨h2, e⟩)]
            rfl
          · rw [if_neg e]
            refine (sT _ _ (sl1 _ _ (hg.r i (by omega)))).trans ?_
            congr 2
            refine rg_congr fun j _ => ?_
            unfold exC
            rw [if_neg (by omega)]
        · show upd _ _ _ _ = _
          rw [upd_ne (ne_of_none upd_same hT), upd_same, rg_snoc']
          congr 2
          refine rg_congr fun j hj => ?_
          unfold exS
          by_cases e : j = m
          · rw [if_pos e, if_pos ⟨h2, e⟩]
          · rw [if_neg e, if_neg (by omega)]
        · show _ = _
          rw [show (fun i => V.int (exT n o b i)) = fun i => V.int (b i) by
            funext i
            unfold exT
            rw [if_neg (by omega)]]
          exact sT _ _ (sl1 _ _ hb)
      · rw [decide_eq_false h2]
        have e1 : exm m o = m := if_neg h2
        rw [e1, e2] at k
        refine iteF ?_
        refine ⟨_, rfl, _, rfl, _, rfl, by show 3 ≤ sizeLine; decide, fun T hT => ?_⟩
        have sT := Same.new hT (o := .tup [.ref g, .ref ga, .ref gb])
        refine k _ T g ga gb sT hT upd_same ⟨r, ⟨sT _ _ hg.o, fun i hi => ?_⟩⟩ ?_ ?_
        · refine (sT _ _ (hg.r i hi)).trans ?_
          congr 2
          refine rg_congr fun j _ => ?_
          unfold exC
          rw [if_neg (by omega)]
        · show _ = _
          rw [show (fun i => V.int (exS m o a i)) = fun i => V.int (a i) by
            funext i
            unfold exS
            rw [if_neg (by omega)]]
          exact sT _ _ ha
        · show _ = _
          rw [show (fun i => V.int (exT n o b i)) = fun i => V.int (b i) by
            funext i
            unfold exT
            rw [if_neg (by omega)]]
          exact sT _ _ hb
end
end K78
end
section
set_option Elab.async false
set_option linter.all false
set_option maxRecDepth 100000
set_option maxHeartbeats 4000000
namespace K78
open PySem PySem.Spec PyProof.Rows L2 He
theorem cut_ints {n : Nat} {f : Nat → Int} {lo hi : Option Int} {i : Nat} {v : V} (h : (cutV (rg n fun i => V.int (f i)) lo hi)[i]? = some v) : ∃ k, v = .int k := by
  have := List.mem_of_getElem? h
  unfold cutV at this
  have h2 := List.mem_of_mem_drop (List.mem_of_mem_take this)
  obtain ⟨j, hj, e⟩ := List.mem_iff_getElem.mp h2
  have e2 : (rg n fun i => V.int (f i))[j]? = some v := by rw [List.getElem?_eq_getElem hj, e]
  exact ⟨_, (rg_of e2).2⟩
theorem cut_len {xs : List V} {lo hi : Option Int} : (cutV xs lo hi).length ≤ xs.length := by
  unfold cutV
  rw [List.length_take, List.length_drop]
  omega
section
variable {P : Program} {w : World} {K : PySem.W.Frag} {mg : Str → Option Value} {base : Heap}
def sp_plain_worths (K : PySem.W.Frag) : Sp := fun vs H Q _ => ∃ (ua va : Addr) (M N m n : Nat) (u v : Nat → Int), vs = [.ref ua, .ref va, .int (m : Int), .int (n : Int)] ∧ IntsAt H ua M u ∧ IntsAt H va N v ∧ M ≤ 9 ∧ N ≤ 9 ∧ ∀ H' T, Same H H' → Q (.ref T) H'
theorem ok_plain_worths (E : TX K mg) : FnOk P w K mg base CX0 1 (a_plain_worths K) (fdOf K (a_plain_worths K)) P_plain_worths (sp_plain_worths K) := by
  refine (f_plain_worths E).ok sc_plain_worths (fun vs H Q E' h => ?_) (fun cdv A outer s H vs Q E' hr h => ?_)
  · obtain ⟨_, _, _, _, _, _, _, _, rfl, _⟩ := h; rfl
  · obtain ⟨ua, va, M, N, m, n, u, v, rfl, hu, hv, hM, hN, k⟩ := h
    refine ⟨_, PSs.nox (pss_cons (ps_set (i := 4) sc_plain_worths.nd rfl (Or.inr rfl) pe_int)
    (pss_cons (ps_if (pt_cmpR op_gt (pe_callB call_len_seq (by rfl) (fr_len (K := K) E) boot_len (pa_cons (pv 1) pa_nil)) (pv 3) (nomark _)) (pss_one (ps_set (i := 4) sc_plain_worths.nd rfl (Or.inr rfl) (pe_ix ix_list (pv 1) (pv 3) (fun _ _ => rfl)))) pss_nil)
    (pss_cons (ps_if (pt_cmpR op_gt (pe_callB call_len_seq (by rfl) (fr_len (K := K) E) boot_len (pa_cons (pv 0) pa_nil)) (pv 2) (nomark _)) (pss_one (ps_set (i := 4) sc_plain_worths.nd rfl (Or.inr rfl) (pe_un un_neg (pe_ix ix_list (pv 0) (pv 2) (fun _ _ => rfl))))) pss_nil)
    (pss_cons (ps_setLc (i := 5) (own := [("worth", 6)]) rfl sc_plain_worths.nd rfl rfl (sw_true rfl rfl rfl (by decide +kernel)) (pi_list (pe_slice sl_list (pv 0) po_none (po_some (pv 2)))) (blkOk_by (own := [("worth", 6)]) (N := N_plain_worths) (sc := defScope s_plain_worths) (by decide +kernel)) (fun _ _ _ _ _ => (pg_name (i := 6) sc_plain_worths.nd rfl (Or.inl rfl))) (fun _ _ _ _ _ => pts_nil) (fun _ _ _ _ _ => (pe_op op_add (pv 6) (pv 4))))
    (pss_cons (ps_setLc (i := 7) (own := [("worth", 6)]) rfl sc_plain_worths.nd rfl rfl (sw_true rfl rfl rfl (by decide +kernel)) (pi_list (pe_slice sl_list (pv 1) po_none (po_some (pv 3)))) (blkOk_by (own := [("worth", 6)]) (N := N_plain_worths) (sc := defScope s_plain_worths) (by decide +kernel)) (fun _ _ _ _ _ => (pg_name (i := 6) sc_plain_worths.nd rfl (Or.inl rfl))) (fun _ _ _ _ _ => pts_nil) (fun _ _ _ _ _ => (pe_op op_sub (pv 6) (pv 4))))
    (pss_one (ps_ret (pe_tup (pa_cons (pv 5) (pa_cons (pv 7) pa_nil)))))))))), ?_⟩
    refine ⟨_, rfl, va, _, rfl, .inl (SqL.of hv), _, rfl, _, _, rfl, rfl, _, rfl, ?_⟩
    rw [rg_len]
    refine ifs_go (fun σ H' => ∃ mv : Int, σ = [some (.ref ua), some (.ref va), some (.int (m : Int)), some (.int (n : Int)), some (.int mv), none, none, none] ∧ H = H')
      (fun h rest => ⟨_, rfl, _, rfl, va, _, _, _, rfl, rfl, SqL.of hv, atR _ (by have := of_decide_eq_true h; omega), rest _ _ ⟨_, rfl, rfl⟩⟩) (fun h rest => rest _ _ ⟨_, rfl, rfl⟩) ?_
    rintro σ H' ⟨mv, rfl, rfl⟩
    refine ⟨_, rfl, ua, _, rfl, .inl (SqL.of hu), _, rfl, _, _, rfl, rfl, _, rfl, ?_⟩
    rw [rg_len]
    refine ifs_go (fun σ H' => ∃ mv : Int, σ = [some (.ref ua), some (.ref va), some (.int (m : Int)), some (.int (n : Int)), some (.int mv), none, none, none] ∧ H = H')
      (fun h rest => ⟨_, rfl, _, rfl, ua, _, _, _, rfl, rfl, SqL.of hu, atR _ (by have := of_decide_eq_true h; omega), _, rfl, rest _ _ ⟨_, rfl, rfl⟩⟩) (fun h rest => rest _ _ ⟨_, rfl, rfl⟩) ?_
    rintro σ H' ⟨mv, rfl, rfl⟩
    refine ⟨_, rfl, _, rfl, _, rfl, ua, _, rfl, SqL.of hu, fun A hA => ?_⟩
    have sA := Same.new hA (o := .lst (cutV (rg M fun i => V.int (u i)) none (some (m : Int))))
    refine ⟨A, rfl, ⟨_, SqL.of upd_same⟩, fun D hD => ?_⟩
    refine walk_go (walk_list (xs := cutV (rg M fun i => V.int (u i)) none (some (m : Int)))) (fun i H' => Same H H' ∧ H' A = some (.lst (cutV (rg M fun i => V.int (u i)) none (some (m : Int)))) ∧ ∃ xs, H' D = some (.lst xs) ∧ xs.length = i) ⟨Same.new0 sA hD, (upd_ne (ne_of_none upd_same hD)).trans upd_same, [], upd_same, rfl⟩ (fun i H' _ ⟨_, o, _⟩ => SqL.of o) ?_ ?_
    · rintro i x H' H'' hi ⟨s, oA, xs, o, hl⟩ ⟨rfl, hx⟩
      obtain ⟨k1, rfl⟩ := cut_ints hx
      have hlen := Nat.le_trans (cut_len (xs := rg M fun i => V.int (u i)) (lo := none) (hi := some (m : Int))) (by rw [rg_len]; exact hM)
      have nAD : A ≠ D := fun e => by
        have h1 := (ne_of_none upd_same hD : A ≠ D)
        exact h1 e
      exact ⟨rfl, _, rfl, _, rfl, _, _, rfl, rfl, _, o, by rw [hl]; exact Nat.lt_of_lt_of_le hi (Nat.le_trans hlen (by decide)), Same.up s (sA.free hD), (upd_ne nAD).trans oA, _, upd_same, by rw [List.length_append, hl]; rfl⟩
    rintro H1 ⟨s1, _, xs1, o1, hl1⟩
    refine ⟨_, rfl, _, rfl, _, rfl, va, _, rfl, SqL.of (s1 _ _ hv), fun A2 hA2 => ?_⟩
    have sA2 := Same.new hA2 (o := .lst (cutV (rg N fun i => V.int (v i)) none (some (n : Int))))
    refine ⟨A2, rfl, ⟨_, SqL.of upd_same⟩, fun D2 hD2 => ?_⟩
    refine walk_go (walk_list (xs := cutV (rg N fun i => V.int (v i)) none (some (n : Int)))) (fun i H' => Same H1 H' ∧ H' A2 = some (.lst (cutV (rg N fun i => V.int (v i)) none (some (n : Int)))) ∧ ∃ xs, H' D2 = some (.lst xs) ∧ xs.length = i) ⟨Same.new0 sA2 hD2, (upd_ne (ne_of_none upd_same hD2)).trans upd_same, [], upd_same, rfl⟩ (fun i H' _ ⟨_, o, _⟩ => SqL.of o) ?_ ?_
    · rintro i x H' H'' hi ⟨s, oA, xs, o, hl⟩ ⟨rfl, hx⟩
      obtain ⟨k1, rfl⟩ := cut_ints hx
      have hlen := Nat.le_trans (cut_len (xs := rg N fun i => V.int (v i)) (lo := none) (hi := some (n : Int))) (by rw [rg_len]; exact hN)
      have nAD : A2 ≠ D2 := ne_of_none upd_same hD2
      exact ⟨rfl, _, rfl, _, rfl, _, _, rfl, rfl, _, o, by rw [hl]; exact Nat.lt_of_lt_of_le hi (Nat.le_trans hlen (by decide)), Same.up s (sA2.free hD2), (upd_ne nAD).trans oA, _, upd_same, by rw [List.length_append, hl]; rfl⟩
    rintro H2 ⟨s2, _⟩
    refine ⟨_, rfl, _, rfl, by show 2 ≤ sizeLine; decide, fun T hT => ?_⟩
    exact k _ T ((s1.trans s2).trans (Same.new hT))
/-- the extended problem has a full serving -/
def Ext (m n : Nat) (c : Nat → Nat → Option Int) (a b : Nat → Int) (f : Nat → Nat → Int) : Prop :=
  Full (exm m (S m a - S n b)) (exn n (S m a - S n b)) (exC m n (S m a - S n b) c) (exS m (S m a - S n b) a) (exT n (S m a - S n b) b) f
def Best (m n : Nat) (c : Nat → Nat → Option Int) (a b : Nat → Int) (f : Nat → Nat → Int) : Prop := ∀ y, Ext m n c a b y → dot (exm m (S m a - S n b)) (exn n (S m a - S n b)) (pc (exC m n (S m a - S n b) c)) f ≤ dot (exm m (S m a - S n b)) (exn n (S m a - S n b)) (pc (exC m n (S m a - S n b) c)) y
theorem ex_nn {m n : Nat} {a b : Nat → Int} {o : Int} (h : nonneg m n a b) : (∀ i, i < exm m o → 0 ≤ exS m o a i) ∧ ∀ j, j < exn n o → 0 ≤ exT n o b j := by
  refine ⟨fun i hi => ?_, fun j hj => ?_⟩
  · unfold exS
    split
    · omega
    · rename_i z
      refine h.1 i ?_
      unfold exm at hi
      split at hi <;> omega
  · unfold exT
    split
    · omega
    · rename_i z
      refine h.2 j ?_
      unfold exn at hj
      split at hj <;> omega
theorem ex_bal (m n : Nat) (a b : Nat → Int) : S (exm m (S m a - S n b)) (exS m (S m a - S n b) a) = S (exn n (S m a - S n b)) (exT n (S m a - S n b) b) := by
  obtain ⟨o, eo⟩ : ∃ o, S m a - S n b = o := ⟨_, rfl⟩
  rw [eo]
  have e1 : S m (exS m o a) = S m a := S_congr fun i hi => if_neg (by omega)
  have e2 : S n (exT n o b) = S n b := S_congr fun j hj => if_neg (by omega)
  unfold exm exn
  by_cases h1 : o < 0
  · rw [if_pos h1, if_neg (by omega), e2]
    show S m (exS m o a) + exS m o a m = _
    rw [e1, show exS m o a m = -o from if_pos ⟨h1, rfl⟩]
    omega
  · rw [if_neg h1, e1]
    by_cases h2 : 0 < o
    · rw [if_pos h2]
      show _ = S n (exT n o b) + exT n o b n
      rw [e2, show exT n o b n = o from if_pos ⟨h2, rfl⟩]
      omega
    · rw [if_neg h2, e2]
      omega
theorem exm_le (m : Nat) (o : Int) : m ≤ exm m o ∧ exm m o ≤ m + 1 := by unfold exm; split <;> omega
theorem exn_le (n : Nat) (o : Int) : n ≤ exn n o ∧ exn n o ≤ n + 1 := by unfold exn; split <;> omega
def sp_cheapest (K : PySem.W.Frag) : Sp := fun vs H Q _ => ∃ (t p : Addr) (m n : Nat) (a b : Nat → Int) (c : Nat → Nat → Option Int) (x y : Nat → Nat → Int), vs = [.ref t, .ref p] ∧ AmtAt K H p m n a b ∧ TabAt K H t m n c ∧ dim m n ∧ nonneg m n a b ∧ Fit m n c a b x ∧ Ext m n c a b y ∧
  ∀ H' T s W f, Same H H' → H T = none → H' T = some (.tup [.ref s, W]) → SvAt K H' s m n c (fun q => f q.1 q.2) → Ext m n c a b f → Best m n c a b f → Q (.ref T) H'
theorem ok_cheapest (E : TX K mg) : FnOk P w K mg base CX0 5 (a_cheapest K) (fdOf K (a_cheapest K)) P_cheapest (sp_cheapest K) := by
  refine (f_cheapest E).ok sc_cheapest (fun vs H Q E' h => ?_) (fun cdv A outer s H vs Q E' hr h => ?_)
  · obtain ⟨_, _, _, _, _, _, _, _, _, rfl, _⟩ := h; rfl
  · obtain ⟨t, p, m, n, a, b, c, x, y, rfl, hA, hT, hd, hnn, hF, hy, k⟩ := h
    refine ⟨_, PSs.nox (pss_cons (ps_set (i := 2) sc_cheapest.nd rfl (Or.inl rfl) (pe_call (ok_shortage (K := K) E) (hr.mono (by decide)) rfl (g_shortage (K := K) E) (k_shortage (K := K) E) (b_shortage (K := K) E) .nil pass0 (pa_cons (pv 0) (pa_cons (pv 1) pa_nil))))
    (pss_cons (ps_if (pt_cmpR op_notN (pv 2) pe_non (nomark _)) (pss_one ps_never) pss_nil)
    (pss_cons (ps_asg (pe_call (ok_balanced (K := K) E) (hr.mono (by decide)) rfl (g_balanced (K := K) E) (k_balanced (K := K) E) (b_balanced (K := K) E) .nil pass0 (pa_cons (pe_meth0 (pv 0) (cl_Table (K := K) E) (m_Table_rows (K := K) E) (ok_Table_rows (K := K) E) (hr.mono (by decide)) (b_Table_rows (K := K) E) .nil pass0) (pa_cons (pe_meth0 (pv 1) (cl_Amounts (K := K) E) (m_Amounts_stocks (K := K) E) (ok_Amounts_stocks (K := K) E) (hr.mono (by decide)) (b_Amounts_stocks (K := K) E) .nil pass0) (pa_cons (pe_meth0 (pv 1) (cl_Amounts (K := K) E) (m_Amounts_wishes (K := K) E) (ok_Amounts_wishes (K := K) E) (hr.mono (by decide)) (b_Amounts_wishes (K := K) E) .nil pass0) pa_nil)))) (pg_tup rfl (pgs_cons (pg_name (i := 3) sc_cheapest.nd rfl (Or.inl rfl)) (pgs_cons (pg_name (i := 4) sc_cheapest.nd rfl (Or.inl rfl)) (pgs_cons (pg_name (i := 5) sc_cheapest.nd rfl (Or.inl rfl)) pgs_nil)))))
    (pss_cons (ps_asg (pe_call (ok_cheapest_flow (K := K) E) (hr.mono (by decide)) rfl (g_cheapest_flow (K := K) E) (k_cheapest_flow (K := K) E) (b_cheapest_flow (K := K) E) .nil pass0 (pa_cons (pv 3) (pa_cons (pv 4) (pa_cons (pv 5) pa_nil)))) (pg_tup rfl (pgs_cons (pg_name (i := 6) sc_cheapest.nd rfl (Or.inl rfl)) (pgs_cons (pg_name (i := 7) sc_cheapest.nd rfl (Or.inl rfl)) (pgs_cons (pg_name (i := 8) sc_cheapest.nd rfl (Or.inl rfl)) pgs_nil)))))
    (pss_cons (ps_set (i := 9) sc_cheapest.nd rfl (Or.inl rfl) pe_dnewT)
    (pss_cons (ps_for PassesOwn.never rfl (pi_list (pe_meth0 (pv 0) (cl_Table (K := K) E) (m_Table_pairs (K := K) E) (ok_Table_pairs (K := K) E) (hr.mono (by decide)) (b_Table_pairs (K := K) E) .nil pass0)) (pg_tup rfl (pgs_cons (pg_name (i := 10) sc_cheapest.nd rfl (Or.inl rfl)) (pgs_cons (pg_name (i := 11) sc_cheapest.nd rfl (Or.inl rfl)) pgs_nil)))
    (pss_one (ps_dput (hu_of hr) (pv 9) (pe_tup (pa_cons (pv 10) (pa_cons (pv 11) pa_nil))) (pe_ix ix_list (pe_ix ix_list (pv 6) (pv 10) (fun _ _ => rfl)) (pv 11) (fun _ _ => rfl)) rfl)))
    (pss_cons (ps_set (i := 12) sc_cheapest.nd rfl (Or.inl rfl) (pe_call (ok_plain_worths (K := K) E) (hr.mono (by decide)) rfl (g_plain_worths (K := K) E) (k_plain_worths (K := K) E) (b_plain_worths (K := K) E) .nil pass0 (pa_cons (pv 7) (pa_cons (pv 8) (pa_cons (pe_meth0 (pv 0) (cl_Table (K := K) E) (m_Table_stocks (K := K) E) (ok_Table_stocks (K := K) E) (hr.mono (by decide)) (b_Table_stocks (K := K) E) .nil pass0) (pa_cons (pe_meth0 (pv 0) (cl_Table (K := K) E) (m_Table_wishes (K := K) E) (ok_Table_wishes (K := K) E) (hr.mono (by decide)) (b_Table_wishes (K := K) E) .nil pass0) pa_nil))))))
    (pss_one (ps_ret (pe_tup (pa_cons (pe_make (mk_Serving (K := K) E) (ok_Serving__init__ (K := K) E) (hr.mono (by decide)) rfl (g_Serving (K := K) E) (b_Serving__init__ (K := K) E) .nil pass0 (pa_cons (pv 0) (pa_cons (pv 1) (pa_cons (pv 9) pa_nil)))) (pa_cons (pv 12) pa_nil)))))))))))), ?_⟩
    obtain ⟨dt, g0, hpt, _⟩ := id hT
    obtain ⟨da, sa, ta, hpa, _⟩ := id hA
    have xm := exm_le m (S m a - S n b)
    have xn := exn_le n (S m a - S n b)
    have hm8 := hd.2.1
    have hn8 := hd.2.2.2
    have h64 := cells64 c hd
    refine ⟨_, rfl, _, rfl, t, p, m, n, a, b, c, x, rfl, hA, hT, hd, hnn, hF, fun H1 s1 => ?_⟩
    refine ⟨_, rfl, rfl, _, rfl, ?_⟩
    refine ⟨_, rfl, t, dt, _, rfl, s1 _ _ hpt, rfl, t, m, n, c, rfl, hT.same s1, hm8, fun H2 g s2 _ hg => ?_⟩
    have s12 := s1.trans s2
    refine ⟨_, rfl, p, da, _, rfl, s12 _ _ hpa, rfl, p, m, n, a, b, rfl, hA.same s12, fun H3 S' s3 _ iS => ?_⟩
    have s13 := s12.trans s3
    refine ⟨_, rfl, p, da, _, rfl, s13 _ _ hpa, rfl, p, m, n, a, b, rfl, hA.same s13, fun H4 W' s4 _ iW => ?_⟩
    have s14 := s13.trans s4
    refine ⟨g, S', W', m, n, c, a, b, rfl, (hg.same s3).same s4, s4 _ _ iS, iW, hm8, hn8, fun H5 T g' ga' gb' s5 hT5 oT hg' ha' hb' => ?_⟩
    have s15 := s14.trans s5
    refine ⟨T, _, rfl, .inl (.inl oT), rfl, _, _, rfl, _, _, rfl, _, _, rfl, rfl, ?_⟩
    have en := ex_nn (o := S m a - S n b) hnn
    refine ⟨_, rfl, _, rfl, _, rfl, g', ga', gb', _, _, _, _, _, y, rfl, hg', ha', hb', by have := hd.1; omega, by omega, by omega, en.1, en.2, ex_bal m n a b, hy, fun H6 T6 gf ua va r f u v s6 hT6 oT6 hf hu hv hE hB => ?_⟩
    have s16 := s15.trans s6
    refine ⟨T6, _, rfl, .inl (.inl oT6), rfl, _, _, rfl, _, _, rfl, _, _, rfl, rfl, ?_⟩
    intro D hD
    have sD := Same.new hD (o := .dT [])
    have s1D := s16.trans sD
    have hD0 : H D = none := s16.free hD
    refine ⟨_, rfl, t, dt, _, rfl, s1D _ _ hpt, rfl, t, m, n, c, rfl, hT.same s1D, hd, fun H7 l s7 hl ⟨ts, ol, q⟩ => ?_⟩
    refine ⟨l, rfl, ⟨_, SqL.of ol⟩, for_list (fun k σ H' => ∃ v10 v11, σ = [some (.ref t), some (.ref p), some .non, some (.ref g'), some (.ref ga'), some (.ref gb'), some (.ref gf), some (.ref ua), some (.ref va), some (.ref D), v10, v11, none] ∧ (∀ b o, H7 b = some o → b ≠ D → H' b = some o) ∧ Same H H' ∧ DmAt H' D ((cells m n c).take k) (fun q => .int (f q.1 q.2)))
      ⟨none, none, rfl, fun _ _ e _ => e, s1D.trans s7, s7 _ _ upd_same⟩ (fun k σ H' _ ⟨_, _, _, s, _, o⟩ => SqL.of (s _ _ ol (ne_of_none upd_same hl).symm)) ?_ ?_⟩
    · rintro i x σ H' hx ⟨v10, v11, rfl, s, s0, o⟩
      obtain ⟨t', et, rfl⟩ := map_ref_at hx
      obtain ⟨e, er, hr'⟩ := q.of et
      obtain ⟨c1, c2, c3⟩ := mem_cells.mp (List.mem_of_getElem? er)
      have hoD := (s7 _ _ upd_same : H7 D = some (.dT []))
      have hr2 := s _ _ hr' (ne_of hr' hoD (by intro z; cases z))
      have hf7 := (hf.same sD).same s7
      have hfo := s _ _ hf7.o (ne_of hf7.o hoD (by intro z; cases z))
      have hfr := s _ _ (hf7.r e.1 (by omega)) (ne_of (hf7.r e.1 (by omega)) hoD (by intro z; cases z))
      refine ⟨t', _, rfl, t2_at hr2, rfl, _, _, rfl, _, _, rfl, rfl, ?_⟩
      refine ⟨_, rfl, _, rfl, gf, _, _, _, rfl, rfl, SqL.of hfo, atR _ (show e.1 < exm m (S m a - S n b) by omega), _, rfl, _, _, _, _, rfl, rfl, SqL.of hfr, atR _ (show e.2 < exn n (S m a - S n b) by omega), ?_⟩
      refine ⟨_, rfl, _, rfl, _, rfl, by show 2 ≤ sizeLine; decide, fun z hz => ?_⟩
      have nDz := ne_of_none o hz
      have oz : upd H' z (.tup [.int (e.1 : Int), .int (e.2 : Int)]) D = some (.dT (dm ((cells m n c).take i) fun q => .int (f q.1 q.2))) := (upd_ne nDz).trans o
      refine ⟨D, _, rfl, DPut.t oz (ky_tup (q := e) upd_same) ?_, ?_⟩
      · rw [dm_len, List.length_take]
        exact Nat.lt_of_le_of_lt (Nat.le_trans (Nat.min_le_right _ _) h64) (by decide)
      · refine ⟨_, _, rfl, fun b o eb hb => (upd_ne hb).trans ((upd_ne (ne_of_none (s b o eb hb) hz)).trans (s b o eb hb)), Same.up (Same.new0 s0 hz) hD0, ?_⟩
        show upd _ _ _ _ = _
        rw [upd_same, take_snoc er, dm_put_new (f := fun q => .int (f q.1 q.2)) (nodup_take_not_mem (nodup_cells m n c) er)]
    · rintro σ H8 ⟨v10, v11, rfl, s8, s08, o⟩
      rw [List.length_map, q.1, List.take_length] at o
      have hoD := (s7 _ _ upd_same : H7 D = some (.dT []))
      have hu8 := s8 _ _ (s7 _ _ (sD _ _ hu)) (ne_of (s7 _ _ (sD _ _ hu)) hoD (by intro z; cases z))
      have hv8 := s8 _ _ (s7 _ _ (sD _ _ hv)) (ne_of (s7 _ _ (sD _ _ hv)) hoD (by intro z; cases z))
      refine ⟨_, rfl, _, rfl, _, rfl, t, dt, _, rfl, s08 _ _ hpt, rfl, t, m, n, c, rfl, hT.same s08, ?_⟩
      refine ⟨_, rfl, t, dt, _, rfl, s08 _ _ hpt, rfl, t, m, n, c, rfl, hT.same s08, hd.1, ?_⟩
      refine ⟨ua, va, _, _, m, n, u, v, rfl, hu8, hv8, by omega, by omega, fun H9 T9 s9 => ?_⟩
      have s09 := s08.trans s9
      refine ⟨_, rfl, _, rfl, _, rfl, fun z dz nz ndz nez => ?_⟩
      have s3 : Same H9 (upd (upd H9 dz (.own z)) z (.ins (c_Serving K) dz [])) := Same.new0 (Same.new0 (Same.refl _) ndz) (by rw [upd_ne nez.symm]; exact nz)
      refine ⟨z, dz, t, p, D, m, n, c, cells m n c, fun q => f q.1 q.2, rfl, upd_same, (ne_of_none (s09 _ _ hpt) nz).symm, (hT.same s09).same s3, hd, s3 _ _ (s9 _ _ o), fun r hr => hr, fun H10 sx hv => ⟨rfl, ?_⟩⟩
      have s10 := s09.trans (Same.made nz ndz sx)
      refine ⟨_, rfl, by show 2 ≤ sizeLine; decide, fun T2 hT2 => ?_⟩
      have s11 := Same.new hT2 (o := .tup [.ref z, .ref T9])
      exact k _ T2 z _ f (s10.trans s11) (s10.free hT2) upd_same (hv.same s11) hE hB
def sp_least_cost (K : PySem.W.Frag) : Sp := fun vs H Q _ => ∃ (t p : Addr) (m n : Nat) (a b : Nat → Int) (c : Nat → Nat → Option Int) (x y : Nat → Nat → Int), vs = [.ref t, .ref p] ∧ AmtAt K H p m n a b ∧ TabAt K H t m n c ∧ dim m n ∧ nonneg m n a b ∧ Fit m n c a b x ∧ Ext m n c a b y ∧
  (∀ q, q ∈ cells m n c → Bd 1000 (vl c q)) ∧ (∀ i, i < m → Bd 1000 (a i)) ∧ ∀ H' f, Same H H' → Ext m n c a b f → Best m n c a b f → Q (.int (costS c m n fun q => f q.1 q.2)) H'
theorem ok_least_cost (E : TX K mg) : FnOk P w K mg base CX0 7 (a_least_cost K) (fdOf K (a_least_cost K)) P_least_cost (sp_least_cost K) := by
  refine (f_least_cost E).ok sc_least_cost (fun vs H Q E' h => ?_) (fun cdv A outer s H vs Q E' hr h => ?_)
  · obtain ⟨_, _, _, _, _, _, _, _, _, rfl, _⟩ := h; rfl
  · obtain ⟨t, p, m, n, a, b, c, x, y, rfl, hA, hT, hd, hnn, hF, hy, hbp, hba, k⟩ := h
    refine ⟨_, PSs.nox (pss_cons (ps_asg (pe_call (ok_cheapest (K := K) E) (hr.mono (by decide)) rfl (g_cheapest (K := K) E) (k_cheapest (K := K) E) (b_cheapest (K := K) E) .nil pass0 (pa_cons (pv 0) (pa_cons (pv 1) pa_nil))) (pg_tup rfl (pgs_cons (pg_name (i := 2) sc_least_cost.nd rfl (Or.inl rfl)) (pgs_cons (pg_name (i := 3) sc_least_cost.nd rfl (Or.inl rfl)) pgs_nil))))
    (pss_one (ps_ret (pe_meth0 (pv 2) (cl_Serving (K := K) E) (m_Serving_cost (K := K) E) (ok_Serving_cost (K := K) E) (hr.mono (by decide)) (b_Serving_cost (K := K) E) .nil pass0)))), ?_⟩
    refine ⟨_, rfl, _, rfl, t, p, m, n, a, b, c, x, y, rfl, hA, hT, hd, hnn, hF, hy, fun H1 T s W f s1 hT1 oT hs hE hB => ?_⟩
    refine ⟨T, _, rfl, .inl (.inl oT), rfl, _, _, rfl, _, _, rfl, rfl, ?_⟩
    obtain ⟨dx, tb, am, d, hp, _⟩ := id hs
    refine ⟨_, rfl, s, dx, _, rfl, hp, rfl, s, m, n, c, _, rfl, hs, hd, fun q hq => ⟨hbp q hq, ?_⟩, fun H2 s2 => k H2 f (s1.trans s2) hE hB⟩
    obtain ⟨c1, c2, c3⟩ := mem_cells.mp hq
    have xm := exm_le m (S m a - S n b)
    have xn := exn_le n (S m a - S n b)
    have h1 := hE.r q.1 (by omega)
    have h2 : f q.1 q.2 ≤ row (exn n (S m a - S n b)) f q.1 := S_ge_one (fun j _ => hE.nn q.1 j) (by omega)
    rw [h1] at h2
    have h3 : exS m (S m a - S n b) a q.1 = a q.1 := if_neg (by omega)
    rw [h3] at h2
    have h4 := hba q.1 c1
    have h5 := hE.nn q.1 q.2
    show (f q.1 q.2).natAbs < 2 ^ 1000
    have h6 : (a q.1).natAbs < 2 ^ 1000 := h4
    omega
end
end K78
end
section
set_option Elab.async false
set_option linter.all false
set_option maxRecDepth 100000
set_option maxHeartbeats 4000000
namespace K78
open PySem PySem.Spec PyProof.Rows L2 He
/-- an if whose test leaves all as it is, either way -/
theorem tifs_any {c : TT} {A B : TS} {D : Ends} {σ : L2.St} {H : Hp} (hc : ∀ K : Bool → Hp → Prop, (∀ b, K b H) → c σ H K) (hA : A D σ H) (hB : B D σ H) : tIfS c A B D σ H := hc _ fun b => by
  cases b with
  | true => exact iteT hA
  | false => exact iteF hB
section
variable {P : Program} {w : World} {K : PySem.W.Frag} {mg : Str → Option Value} {base : Heap}
/-- the script -/
def Scr (K : PySem.W.Frag) (H : Hp) (a : Addr) : Prop := ∃ ns : List Int, SqL K H a (ns.map V.int) ∧ ns.length ≤ 63
theorem Scr.same {H H' : Hp} {a : Addr} (h : Scr K H a) (s : Same H H') : Scr K H' a := let ⟨ns, q, l⟩ := h; ⟨ns, Same.seq s q, l⟩
def sp__law_cell (K : PySem.W.Frag) : Sp := fun vs H Q _ => ∃ (a : Addr) (k : Nat), vs = [.ref a, .int (k : Int)] ∧ Scr K H a ∧ ∀ v : Int, Q (.int v) H
theorem ok__law_cell (E : TX K mg) : FnOk P w K mg base CX0 1 (a__law_cell K) (fdOf K (a__law_cell K)) P__law_cell (sp__law_cell K) := by
  refine (f__law_cell E).ok sc__law_cell (fun vs H Q E' h => ?_) (fun cdv A outer s H vs Q E' hr h => ?_)
  · obtain ⟨_, _, rfl, _⟩ := h; rfl
  · obtain ⟨a, i, rfl, ⟨ns, ha, hl⟩, k⟩ := h
    refine ⟨_, PSs.nox (pss_cons (ps_if (pt_cmpR op_lt (pv 1) (pe_callB call_len_seq (by rfl) (fr_len (K := K) E) boot_len (pa_cons (pv 0) pa_nil)) (nomark _)) (pss_one (ps_ret (pe_callTy call_int1 (by rfl) (fr_int (K := K) E) (by decide +kernel) (pa_cons (pe_ix ix_list (pv 0) (pv 1) (fun _ _ => rfl)) pa_nil)))) pss_nil)
    (pss_one (ps_ret pe_int))), ?_⟩
    refine ⟨_, rfl, _, rfl, a, _, rfl, .inl ha, _, _, rfl, rfl, _, rfl, ?_⟩
    refine ite2 (fun h => ?_) (fun h => k 0)
    have hi : i < (ns.map V.int).length := by have := of_decide_eq_true h; omega
    have hi2 : i < ns.length := by rw [List.length_map] at hi; exact hi
    have e : (ns.map V.int)[i]? = some (V.int ns[i]) := by rw [List.getElem?_map, List.getElem?_eq_getElem hi2]; rfl
    exact ⟨_, rfl, _, rfl, a, _, _, _, rfl, rfl, ha, atI_nat e, .inl ⟨_, rfl, k _⟩⟩
theorem fmod_bd (a : Int) {b : Int} (h : 0 < b) : 0 ≤ a.fmod b ∧ a.fmod b < b := ⟨Int.fmod_nonneg_of_pos a h, Int.fmod_lt_of_pos a h⟩
def sp__law_mixed (K : PySem.W.Frag) : Sp := fun vs H Q _ => ∃ a b : Int, vs = [.int a, .int b] ∧ ∀ v : Int, 0 ≤ v → v < 2147483399 → Q (.int v) H
theorem ok__law_mixed (E : TX K mg) : FnOk P w K mg base CX0 1 (a__law_mixed K) (fdOf K (a__law_mixed K)) P__law_mixed (sp__law_mixed K) := by
  refine (f__law_mixed E).ok sc__law_mixed (fun vs H Q E' h => ?_) (fun cdv A outer s H vs Q E' hr h => ?_)
  · obtain ⟨_, _, rfl, _⟩ := h; rfl
  · obtain ⟨a, b, rfl, k⟩ := h
    refine ⟨_, PSs.nox (pss_cons (ps_set (i := 2) sc__law_mixed.nd rfl (Or.inl rfl) (pe_op op_modN (pe_callTy call_int1 (by rfl) (fr_int (K := K) E) (by decide +kernel) (pa_cons (pe_op op_mul (pe_op op_add (pe_op op_add (pv 0) (pe_op op_mul pe_int (pv 1))) pe_int) pe_int) pa_nil)) pe_int))
    (pss_cons (ps_set (i := 2) sc__law_mixed.nd rfl (Or.inl rfl) (pe_op op_modN (pe_callTy call_int1 (by rfl) (fr_int (K := K) E) (by decide +kernel) (pa_cons (pe_op op_mul (pv 2) (pe_op op_add (pe_op op_fdivW (pv 2) pe_int) pe_int)) pa_nil)) pe_int))
    (pss_one (ps_ret (pe_op op_modN (pe_callTy call_int1 (by rfl) (fr_int (K := K) E) (by decide +kernel) (pa_cons (pe_op op_mul (pv 2) (pe_op op_add (pe_op op_fdivW (pv 2) pe_int) pe_int)) pa_nil)) pe_int))))), ?_⟩
    refine ⟨_, rfl, _, rfl, _, _, rfl, rfl, .inl ⟨by decide, by decide⟩, _, _, rfl, rfl, _, _, rfl, rfl, _, _, rfl, rfl, .inr ⟨by decide, by decide⟩, .inl ⟨_, rfl, _, _, rfl, rfl, (show (2147483647 : Int) ≠ 0 by decide), ?_⟩⟩
    obtain ⟨x, ex⟩ : ∃ x : Int, ((a + 7919 * b + 1) * 48271).fmod 2147483647 = x := ⟨_, rfl⟩
    obtain ⟨h1, h2⟩ := fmod_bd ((a + 7919 * b + 1) * 48271) (b := 2147483647) (by decide)
    show gName 2 (V.int (((a + 7919 * b + 1) * 48271).fmod 2147483647)) _ _ _
    rw [ex] at h1 h2 ⊢
    have cd : CDivW x 1009 := ⟨by decide, by decide⟩
    refine ⟨_, rfl, _, rfl, _, _, rfl, rfl, cd, _, _, rfl, rfl, _, _, rfl, rfl, .inl ⟨by omega, by omega⟩, .inl ⟨_, rfl, _, _, rfl, rfl, (show (2147483647 : Int) ≠ 0 by decide), ?_⟩⟩
    obtain ⟨y, ey⟩ : ∃ y : Int, (x * (x / 1009 + 69621)).fmod 2147483647 = y := ⟨_, rfl⟩
    obtain ⟨h3, h4⟩ := fmod_bd (x * (x / 1009 + 69621)) (b := 2147483647) (by decide)
    show gName 2 (V.int ((x * (x / 1009 + 69621)).fmod 2147483647)) _ _ _
    rw [ey] at h3 h4 ⊢
    have cd2 : CDivW y 2003 := ⟨by decide, by decide⟩
    refine ⟨_, rfl, _, rfl, _, _, rfl, rfl, cd2, _, _, rfl, rfl, _, _, rfl, rfl, .inl ⟨by omega, by omega⟩, .inl ⟨_, rfl, _, _, rfl, rfl, (show (2147483399 : Int) ≠ 0 by decide), ?_⟩⟩
    obtain ⟨h5, h6⟩ := fmod_bd (y * (y / 2003 + 40692)) (b := 2147483399) (by decide)
    exact k _ h5 h6
def sp__law_draws (K : PySem.W.Frag) : Sp := fun vs H Q _ => ∃ (a z : Addr) (k n : Nat) (f : Nat → Int), vs = [.ref a, .int (k : Int), .ref z] ∧ Scr K H a ∧ IntsAt H z n f ∧ n ≤ 100 ∧ (∀ i, i < n → 0 < f i ∧ Bd 1000 (f i)) ∧
  ∀ H' l d, Same H H' → H l = none → IntsAt H' l n d → (∀ i, i < n → 0 ≤ d i ∧ d i < f i) → Q (.ref l) H'
theorem ok__law_draws (E : TX K mg) : FnOk P w K mg base CX0 2 (a__law_draws K) (fdOf K (a__law_draws K)) P__law_draws (sp__law_draws K) := by
  refine (f__law_draws E).ok sc__law_draws (fun vs H Q E' h => ?_) (fun cdv A outer s H vs Q E' hr h => ?_)
  · obtain ⟨_, _, _, _, _, rfl, _⟩ := h; rfl
  · obtain ⟨a, z, ks, n, f, rfl, ha, hz, hn, hf, k⟩ := h
    refine ⟨_, PSs.nox (pss_cons (ps_set (i := 3) sc__law_draws.nd rfl (Or.inl rfl) (pe_call (ok__law_cell (K := K) E) (hr.mono (by decide)) rfl (g__law_cell (K := K) E) (k__law_cell (K := K) E) (b__law_cell (K := K) E) .nil pass0 (pa_cons (pv 0) (pa_cons (pv 1) pa_nil))))
    (pss_cons (ps_set (i := 4) sc__law_draws.nd rfl (Or.inl rfl) (pv 3))
    (pss_cons (ps_set (i := 5) sc__law_draws.nd rfl (Or.inl rfl) (pe_lst pa_nil))
    (pss_cons (ps_for PassesOwn.never rfl (pi_enum rfl (fr_enumerate (K := K) E) (pa_cons (pv 2) pa_nil)) (pg_tup rfl (pgs_cons (pg_name (i := 6) sc__law_draws.nd rfl (Or.inl rfl)) (pgs_cons (pg_name (i := 7) sc__law_draws.nd rfl (Or.inl rfl)) pgs_nil)))
    (pss_one (ps_if (PW.pt (pw_and (pt_cmpR op_ge (pv 3) (pe_op op_pow pe_int pe_int) (nomark _)) (pw_and1 (pt_cmpR op_gt (pv 4) pe_int (nomark _))))) (pss_cons (ps_expr (pe_bm PySem.F.plainAttrs_list PySem.F.slot_list_append PySem.F.type_list_append mt_append (pv 5) (pa_cons (pe_op op_modN (pe_callTy call_int1 (by rfl) (fr_int (K := K) E) (by decide +kernel) (pa_cons (pv 4) pa_nil)) (pv 7)) pa_nil)))
    (pss_one (ps_set (i := 4) sc__law_draws.nd rfl (Or.inl rfl) (pe_op op_fdivW (pv 4) (pv 7))))) (pss_cons (ps_set (i := 8) sc__law_draws.nd rfl (Or.inl rfl) (pe_op op_fdivW (pe_call (ok__law_mixed (K := K) E) (hr.mono (by decide)) rfl (g__law_mixed (K := K) E) (k__law_mixed (K := K) E) (b__law_mixed (K := K) E) .nil pass0 (pa_cons (pv 3) (pa_cons (pe_op op_add (pe_op op_mul pe_int (pv 1)) (pv 6)) pa_nil))) pe_int))
    (pss_cons (ps_if (pt_cmpR op_gt (pv 7) (pe_op op_pow pe_int pe_int) (nomark _)) (pss_cons (ps_set (i := 8) sc__law_draws.nd rfl (Or.inl rfl) (pe_op op_mul (pv 8) (pe_op op_add (pe_op op_pow pe_int pe_int) pe_int)))
    (pss_one (ps_aug (i := 8) sc__law_draws.nd rfl (Or.inl rfl) (pe_op op_fdivW (pe_call (ok__law_mixed (K := K) E) (hr.mono (by decide)) rfl (g__law_mixed (K := K) E) (k__law_mixed (K := K) E) (b__law_mixed (K := K) E) .nil pass0 (pa_cons (pe_op op_add (pv 3) pe_int) (pa_cons (pe_op op_add (pe_op op_mul pe_int (pv 1)) (pv 6)) pa_nil))) pe_int) ip_add))) pss_nil)
    (pss_one (ps_expr (pe_bm PySem.F.plainAttrs_list PySem.F.slot_list_append PySem.F.type_list_append mt_append (pv 5) (pa_cons (pe_op op_modN (pe_callTy call_int1 (by rfl) (fr_int (K := K) E) (by decide +kernel) (pa_cons (pv 8) pa_nil)) (pv 7)) pa_nil)))))))))
    (pss_one (ps_ret (pv 5))))))), ?_⟩
    refine ⟨_, rfl, _, rfl, a, ks, rfl, ha, fun cell => ?_⟩
    refine ⟨_, rfl, Nat.zero_le _, fun l hl => ?_⟩
    have s0 := Same.new hl (o := .lst [])
    refine ⟨_, rfl, z, _, rfl, SqL.of (s0 _ _ hz), ?_⟩
    refine for_it (walk_enum (xs := rg n fun i => .int (f i))) (fun i σ H' => ∃ (left : Int) (v6 v7 v8 : Option V) (d : Nat → Int), σ = [some (.ref a), some (.int (ks : Int)), some (.ref z), some (.int cell), some (.int left), some (.ref l), v6, v7, v8] ∧ Same H H' ∧ IntsAt H' l i d ∧ ∀ j, j < i → 0 ≤ d j ∧ d j < f j)
      ⟨cell, none, none, none, fun _ => 0, rfl, s0, upd_same, fun j hj => absurd hj (Nat.not_lt_zero _)⟩ (fun i σ H' _ ⟨_, _, _, _, _, _, s, _⟩ => SqL.of (s _ _ hz)) ?_ ?_
    · rintro i x σ H' H'' hi ⟨left, v6, v7, v8, d, rfl, s, o, hd⟩ ⟨T, y1, y2, rfl, hT, rfl, e1, e2⟩
      cases e1
      obtain ⟨hi', rfl⟩ := rg_of e2
      obtain ⟨hf1, hf2⟩ := hf i hi'
      have sT := Same.new hT (o := .tup [.int (i : Int), .int (f i)])
      refine ⟨_, _, rfl, .inl (.inl upd_same), rfl, _, _, rfl, _, _, rfl, rfl, ?_⟩
      have oT := sT _ _ o
      have hsz : (rg i fun j => V.int (d j)).length < sizeLine := by rw [rg_len]; exact Nat.lt_of_lt_of_le hi' (Nat.le_trans hn (by decide))
      have fin : ∀ (q left : Int) (v8 : Option V), ∃ (left' : Int) (v6 v7 v8' : Option V) (d' : Nat → Int), [some (V.ref a), some (V.int (ks : Int)), some (V.ref z), some (V.int cell), some (V.int left), some (V.ref l), some (V.int (i : Int)), some (V.int (f i)), v8] = [some (.ref a), some (.int (ks : Int)), some (.ref z), some (.int cell), some (.int left'), some (.ref l), v6, v7, v8'] ∧
          Same H (upd (upd H' T (.tup [.int (i : Int), .int (f i)])) l (.lst ((rg i fun j => V.int (d j)) ++ [.int (q.fmod (f i))]))) ∧ IntsAt (upd (upd H' T (.tup [.int (i : Int), .int (f i)])) l (.lst ((rg i fun j => V.int (d j)) ++ [.int (q.fmod (f i))]))) l (i + 1) d' ∧ ∀ j, j < i + 1 → 0 ≤ d' j ∧ d' j < f j := by
        intro q left v8
        refine ⟨left, _, _, v8, fun k => if k = i then q.fmod (f i) else d k, rfl, Same.up (s.trans sT) hl, ?_, fun j hj => ?_⟩
        · show upd _ _ _ _ = _
          rw [upd_same, rg_snoc']
          congr 2
          exact rg_congr fun k _ => by
            show _ = V.int (if k = i then q.fmod (f i) else d k)
            split <;> rfl
        · show 0 ≤ (if j = i then q.fmod (f i) else d j) ∧ (if j = i then q.fmod (f i) else d j) < f j
          by_cases e : j = i
          · rw [if_pos e, e]; exact fmod_bd q hf1
          · rw [if_neg e]; exact hd j (by omega)
      have cd : ∀ x : Int, CDivW x (f i) := fun x => wide_div hf1 hf2 (by decide) (by decide)
      refine tifs_any (fun Kk hK => ⟨_, rfl, _, _, rfl, rfl, ⟨by decide, by decide, by decide⟩, _, _, rfl, rfl, _, rfl, ite2 (fun _ => ⟨_, rfl, _, _, rfl, rfl, _, rfl, hK _⟩) (fun _ => hK _)⟩) ?_ ?_
      · refine ⟨_, rfl, .inl ⟨rfl, _, SqL.of oT⟩, _, rfl, .inl ⟨_, rfl, _, rfl, _, _, rfl, rfl, Int.ne_of_gt hf1, l, _, _, rfl, rfl, oT, hsz, ?_⟩⟩
        exact ⟨_, rfl, _, rfl, _, _, rfl, rfl, cd _, fin left _ _⟩
      · refine ⟨_, rfl, _, rfl, _, _, rfl, rfl, .inl ⟨by decide, by decide⟩, _, rfl, _, _, rfl, rfl, cell, _, rfl, fun v hv1 hv2 => ⟨_, _, rfl, rfl, ⟨by decide, by decide⟩, ?_⟩⟩
        obtain ⟨nn, en⟩ : ∃ nn : Int, v / 16 = nn := ⟨_, rfl⟩
        have hn2 : -(2 ^ 64) < nn ∧ nn < 2 ^ 64 := by omega
        show gName 8 (V.int (v / 16)) _ _ _
        rw [en]
        refine ⟨_, rfl, _, _, rfl, rfl, ⟨by decide, by decide, by decide⟩, _, _, rfl, rfl, _, rfl, ?_⟩
        refine ifs_go (fun σ H1 => ∃ q : Int, σ = [some (.ref a), some (.int (ks : Int)), some (.ref z), some (.int cell), some (.int left), some (.ref l), some (.int (i : Int)), some (.int (f i)), some (.int q)] ∧ upd H' T (.tup [.int (i : Int), .int (f i)]) = H1) (fun _ rest => ?_) (fun _ rest => rest _ _ ⟨_, rfl, rfl⟩) ?_
        · refine ⟨_, rfl, _, _, rfl, rfl, ⟨by decide, by decide, by decide⟩, _, _, rfl, rfl, _, _, rfl, rfl, .inl hn2, ?_⟩
          refine ⟨_, rfl, _, rfl, _, _, rfl, rfl, _, rfl, _, _, rfl, rfl, .inl ⟨by decide, by decide⟩, _, rfl, _, _, rfl, rfl, _, _, rfl, fun v2 _ _ => ⟨_, _, rfl, rfl, ⟨by decide, by decide⟩, _, _, rfl, rfl, rest _ _ ⟨_, rfl, rfl⟩⟩⟩
        · rintro σ H1 ⟨q, rfl, rfl⟩
          exact ⟨_, rfl, .inl ⟨rfl, _, SqL.of oT⟩, _, rfl, .inl ⟨_, rfl, _, rfl, _, _, rfl, rfl, Int.ne_of_gt hf1, l, _, _, rfl, rfl, oT, hsz, fin q left _⟩⟩
    · rintro σ H' ⟨left, v6, v7, v8, d, rfl, s, o, hd⟩
      rw [rg_len] at o hd
      exact ⟨_, rfl, k H' l d s hl o hd⟩
end
end K78
end
section
set_option Elab.async false
set_option linter.all false
set_option maxRecDepth 100000
set_option maxHeartbeats 4000000
namespace K78
open PySem PySem.Spec PyProof.Rows L2 He
theorem rep_rg (k : Nat) (v : V) : (List.replicate k [v]).flatten = rg k fun _ => v := by
  induction k with
  | zero => rfl
  | succ k ih =>
    rw [List.replicate_succ', List.flatten_append, ih, ← rg_snoc]
    simp
theorem rg_app (a b : Nat) (f g : Nat → V) : rg a f ++ rg b g = rg (a + b) fun i => if i < a then f i else g (i - a) := by
  refine rg_ext (by rw [List.length_append, rg_len, rg_len]) fun i hi => ?_
  by_cases h : i < a
  · rw [List.getElem?_append_left (by rw [rg_len]; exact h), rg_at _ h, if_pos h]
  · rw [List.getElem?_append_right (by rw [rg_len]; omega), rg_len, rg_at _ (by omega), if_neg h]
theorem cut_rg {n : Nat} (f : Nat → V) (a b : Nat) (h1 : a ≤ b) (h2 : b ≤ n) : cutV (rg n f) (some (a : Int)) (some (b : Int)) = rg (b - a) fun i => f (a + i) := by
  unfold cutV
  rw [rg_len, HT.sIx_nat, HT.sIx_nat, rg_drop, Nat.min_eq_left (show a ≤ n by omega), Nat.min_eq_left h2, rg_take _ _ _ (by omega)]
theorem cut_rg_end {n : Nat} (f : Nat → V) (a : Nat) (h1 : a ≤ n) : cutV (rg n f) (some (a : Int)) none = rg (n - a) fun i => f (a + i) := by
  unfold cutV
  rw [rg_len, HT.sIx_nat, HT.sIx_none, rg_drop, Nat.min_eq_left h1, rg_take _ _ _ (by omega)]
theorem cut_rg_to {n : Nat} (f : Nat → V) (b : Nat) (h2 : b ≤ n) : cutV (rg n f) none (some (b : Int)) = rg b f := by
  unfold cutV
  rw [rg_len, HT.sIx_none, HT.sIx_nat, rg_drop, Nat.min_eq_left h2, rg_take _ _ _ (by omega)]
  exact rg_congr fun i _ => by rw [Nat.zero_add]
theorem Part.congr {H0 H : Hp} {D : Addr} {i n : Nat} {f f' : Nat → Nat → V} {r : Nat → Addr} (p : Part H0 H D i n f r) (h : ∀ j, j < i → ∀ k, k < n → f j k = f' j k) : Part H0 H D i n f' r :=
  ⟨p.s, p.o, p.fr, p.inj, fun j hj => ⟨(p.r j hj).1, by rw [(p.r j hj).2]; congr 2; exact rg_congr fun k hk => h j hj k hk⟩⟩
theorem wm {m n : Nat} (hm : m ≤ 100) (hn : n ≤ 100) : CMulW (m : Int) (n : Int) := wide_mul (a := 10) (b := 10) (by omega) (by omega) (by decide) (by decide) (by decide)
theorem tifs_seq {c : TT} {A B R : TS} {D : Ends} {σ : L2.St} {H : Hp} (hc : ∀ K : Bool → Hp → Prop, (∀ b, K b H) → c σ H K) (hA : A { D with nx := R D } σ H) (hB : B { D with nx := R D } σ H) : tSeq (tIfS c A B) R D σ H := tifs_any hc hA hB
theorem pow_mono {a b : Nat} (h : a ≤ b) : 2 ^ a ≤ 2 ^ b := Nat.pow_le_pow_right (by decide) h
/-- the spread of a style -/
theorem spread_at (st : Nat) (h : st < 8) : ∃ v : Int, atI [V.int 3, V.int 8, V.int 1000, V.int (10 ^ (59 : Int).toNat)] ((st : Int).fmod 4) = some (.int v) ∧ 0 < v ∧ v < 2 ^ 200 := by
  have : st = 0 ∨ st = 1 ∨ st = 2 ∨ st = 3 ∨ st = 4 ∨ st = 5 ∨ st = 6 ∨ st = 7 := by omega
  rcases this with rfl | rfl | rfl | rfl | rfl | rfl | rfl | rfl
  · exact ⟨3, rfl, by decide, by decide⟩
  · exact ⟨8, rfl, by decide, by decide⟩
  · exact ⟨1000, rfl, by decide, by decide⟩
  · exact ⟨_, rfl, by decide, by decide⟩
  · exact ⟨3, rfl, by decide, by decide⟩
  · exact ⟨8, rfl, by decide, by decide⟩
  · exact ⟨1000, rfl, by decide, by decide⟩
  · exact ⟨_, rfl, by decide, by decide⟩
section
variable {P : Program} {w : World} {K : PySem.W.Frag} {mg : Str → Option Value} {base : Heap}
def BdG (m n : Nat) (c : Nat → Nat → Option Int) : Prop := ∀ i, i < m → ∀ j, j < n → ∀ p, c i j = some p → Bd 1000 p
def sp__law_grid (K : PySem.W.Frag) : Sp := fun vs H Q _ => ∃ (a : Addr) (k m n st sh : Nat), vs = [.ref a, .int (k : Int), .int (m : Int), .int (n : Int), .int (st : Int), .int (sh : Int)] ∧ Scr K H a ∧ 1 ≤ m ∧ m ≤ 4 ∧ 1 ≤ n ∧ n ≤ 4 ∧ st < 8 ∧
  ∀ H' g c, Same H H' → H g = none → GridAt H' g m n c → BdG m n c → Q (.ref g) H'
theorem ok__law_grid (E : TX K mg) : FnOk P w K mg base CX0 3 (a__law_grid K) (fdOf K (a__law_grid K)) P__law_grid (sp__law_grid K) := by
  refine (f__law_grid E).ok sc__law_grid (fun vs H Q E' h => ?_) (fun cdv A outer s H vs Q E' hr h => ?_)
  · obtain ⟨_, _, _, _, _, _, rfl, _⟩ := h; rfl
  · obtain ⟨a, ks, m, n, st, sh, rfl, ha, hm1, hm, hn1, hn, hst, k⟩ := h
    refine ⟨_, PSs.nox (pss_cons (ps_set (i := 6) sc__law_grid.nd rfl (Or.inl rfl) (pe_ix ix_list (pe_lst (pa_cons pe_int (pa_cons pe_int (pa_cons pe_int (pa_cons (pe_op op_pow pe_int pe_int) pa_nil))))) (pe_op op_modN (pv 4) pe_int) (fun _ _ => rfl)))
    (pss_cons (ps_if (pt_cmpR op_eq (pv 4) pe_int (nomark _)) (pss_one (ps_set (i := 6) sc__law_grid.nd rfl (Or.inl rfl) (pe_op op_pow pe_int pe_int))) pss_nil)
    (pss_cons (ps_set (i := 7) sc__law_grid.nd rfl (Or.inl rfl) (pe_op op_cat (pe_op op_rep (pe_lst (pa_cons (pe_op op_mulW pe_int (pv 6)) pa_nil)) (pe_op op_mulW (pv 2) (pv 3))) (pe_op op_rep (pe_lst (pa_cons (pv 6) pa_nil)) (pe_op op_add (pv 2) (pv 3)))))
    (pss_cons (ps_set (i := 8) sc__law_grid.nd rfl (Or.inl rfl) (pe_call (ok__law_draws (K := K) E) (hr.mono (by decide)) rfl (g__law_draws (K := K) E) (k__law_draws (K := K) E) (b__law_draws (K := K) E) .nil pass0 (pa_cons (pv 0) (pa_cons (pv 1) (pa_cons (pv 7) pa_nil)))))
    (pss_cons (ps_set (i := 9) sc__law_grid.nd rfl (Or.inl rfl) (pe_slice sl_list (pv 8) (po_some (pe_op op_mulW (pv 2) (pv 3))) (po_some (pe_op op_add (pe_op op_mulW (pv 2) (pv 3)) (pv 2)))))
    (pss_cons (ps_set (i := 10) sc__law_grid.nd rfl (Or.inl rfl) (pe_slice sl_list (pv 8) (po_some (pe_op op_add (pe_op op_mulW (pv 2) (pv 3)) (pv 2))) po_none))
    (pss_cons (ps_set (i := 11) sc__law_grid.nd rfl (Or.inl rfl) (pe_lst pa_nil))
    (pss_cons (ps_for PassesOwn.never rfl (pi_range1 rfl (fr_range (K := K) E) (pa_cons (pv 2) pa_nil)) (pg_name (i := 12) sc__law_grid.nd rfl (Or.inl rfl))
    (pss_cons (ps_set (i := 13) sc__law_grid.nd rfl (Or.inl rfl) (pe_lst pa_nil))
    (pss_cons (ps_for PassesOwn.never rfl (pi_range1 rfl (fr_range (K := K) E) (pa_cons (pv 3) pa_nil)) (pg_name (i := 14) sc__law_grid.nd rfl (Or.inl rfl))
    (pss_cons (ps_set (i := 15) sc__law_grid.nd rfl (Or.inl rfl) (pe_ix ix_list (pv 8) (pe_op op_add (pe_op op_mulW (pv 12) (pv 3)) (pv 14)) (fun _ _ => rfl)))
    (pss_cons (ps_set (i := 16) sc__law_grid.nd rfl (Or.inl rfl) (pe_op op_sub (pe_op op_fdivW (pv 15) pe_int) (pe_op op_fdivW (pv 6) pe_int)))
    (pss_cons (ps_if (pt_cmpR op_ge (pv 4) pe_int (nomark _)) (pss_one (ps_set (i := 16) sc__law_grid.nd rfl (Or.inl rfl) (pe_op op_sub (pe_op op_add (pe_ix ix_list (pv 9) (pv 12) (fun _ _ => rfl)) (pe_op op_mulW pe_int (pe_ix ix_list (pv 10) (pv 14) (fun _ _ => rfl)))) (pe_op op_mulW (pe_ix ix_list (pv 9) (pv 12) (fun _ _ => rfl)) (pe_ix ix_list (pv 10) (pv 14) (fun _ _ => rfl)))))) pss_nil)
    (pss_cons (ps_if (PW.pt (pw_and (pt_cmpR op_gt (pv 5) pe_int (nomark _)) (pw_and1 (pt_cmpR op_eq (pe_op op_modN (pe_callTy call_int1 (by rfl) (fr_int (K := K) E) (by decide +kernel) (pa_cons (pv 15) pa_nil)) (pe_callB (call_max2 rfl) (by rfl) (fr_max (K := K) E) (by decide +kernel) (pa_cons pe_int (pa_cons (pv 5) pa_nil)))) pe_int (nomark _))))) (pss_one (ps_set (i := 16) sc__law_grid.nd rfl (Or.inl rfl) pe_non)) pss_nil)
    (pss_one (ps_expr (pe_bm PySem.F.plainAttrs_list PySem.F.slot_list_append PySem.F.type_list_append mt_append (pv 13) (pa_cons (pv 16) pa_nil)))))))))
    (pss_one (ps_expr (pe_bm PySem.F.plainAttrs_list PySem.F.slot_list_append PySem.F.type_list_append mt_append (pv 11) (pa_cons (pv 13) pa_nil)))))))
    (pss_one (ps_ret (pv 11))))))))))), ?_⟩
    refine ⟨_, _, rfl, rfl, ⟨by decide, by decide, by decide⟩, by show 4 ≤ sizeLine; decide, fun p hp => ?_⟩
    obtain ⟨sp0, e0, hs0, hs1⟩ := spread_at st hst
    have s1 := Same.new hp (o := .lst [V.int 3, V.int 8, V.int 1000, V.int (10 ^ (59 : Int).toNat)])
    refine ⟨_, rfl, _, _, rfl, rfl, (show (4 : Int) ≠ 0 by decide), p, _, _, _, rfl, rfl, SqL.of upd_same, e0, ?_⟩
    obtain ⟨H1, eH1⟩ : ∃ H1, upd H p (.lst [V.int 3, V.int 8, V.int 1000, V.int (10 ^ (59 : Int).toNat)]) = H1 := ⟨_, rfl⟩
    rw [eH1] at s1
    refine ⟨_, rfl, rfl, _, rfl, ?_⟩
    refine ifs_go (fun σ H' => ∃ sp : Int, σ = [some (.ref a), some (.int (ks : Int)), some (.int (m : Int)), some (.int (n : Int)), some (.int (st : Int)), some (.int (sh : Int)), some (.int sp), none, none, none, none, none, none, none, none, none, none] ∧ H1 = H' ∧ 0 < sp ∧ sp < 2 ^ 200)
      (fun _ rest => ⟨_, _, rfl, rfl, ⟨by decide, by decide, by decide⟩, rest _ _ ⟨_, rfl, eH1.symm, by decide, by decide⟩⟩) (fun _ rest => rest _ _ ⟨sp0, rfl, eH1.symm, hs0, hs1⟩) ?_
    rintro σ H' ⟨sp, rfl, rfl, hsp0, hsp1⟩
    have spB : sp.natAbs < 2 ^ 200 := by
      have : (sp.natAbs : Int) < 2 ^ 200 := by omega
      exact_mod_cast this
    obtain ⟨N, hN⟩ : ∃ N : Nat, m * n = N := ⟨_, rfl⟩
    have hN16 : N ≤ 16 := by rw [← hN]; exact Nat.mul_le_mul hm hn
    have cN : (m : Int) * (n : Int) = (N : Int) := by rw [← hN]; exact (Int.natCast_mul m n).symm
    have hmul : CMulW (m : Int) (n : Int) := wm (by omega) (by omega)
    have h18 : CMulW 18 sp := wide_mul (a := 5) (b := 200) (by decide) spB (by decide) (by decide) (by decide)
    refine ⟨_, rfl, _, _, rfl, rfl, h18, Nat.succ_le_of_lt (by decide), fun p1 hp1 => ?_⟩
    have sp1 := Same.new hp1 (o := .lst [V.int (18 * sp)])
    refine ⟨_, rfl, _, rfl, _, _, rfl, rfl, hmul, p1, _, _, rfl, rfl, upd_same, ?_⟩
    rw [cN]
    refine ⟨by omega, by omega, ?_, fun p2 hp2 => ?_⟩
    · rw [Int.toNat_natCast]
      exact Nat.le_trans (show 1 * N ≤ 16 by omega) (by decide)
    rw [Int.toNat_natCast, rep_rg] at *
    have sp2 := Same.new0 sp1 hp2 (o := .lst (rg N fun _ => V.int (18 * sp)))
    refine ⟨_, rfl, Nat.succ_le_of_lt (by decide), fun p3 hp3 => ?_⟩
    have sp3 := Same.new0 sp2 hp3 (o := .lst [V.int sp])
    refine ⟨_, rfl, _, rfl, _, _, rfl, rfl, p3, _, _, rfl, rfl, upd_same, by omega, by omega, ?_, fun p4 hp4 => ?_⟩
    · rw [show ((m : Int) + (n : Int)).toNat = m + n by omega]
      exact Nat.le_trans (show 1 * (m + n) ≤ 16 by omega) (by decide)
    rw [show ((m : Int) + (n : Int)).toNat = m + n by omega, rep_rg]
    have sp4 := Same.new0 sp3 hp4 (o := .lst (rg (m + n) fun _ => V.int sp))
    have n24 : p2 ≠ p4 := ne_of_none ((upd_ne (ne_of_none upd_same hp3)).trans upd_same) hp4
    have n23 : p2 ≠ p3 := ne_of_none upd_same hp3
    refine ⟨p2, p4, _, _, rfl, rfl, (upd_ne n24).trans ((upd_ne n23).trans upd_same), upd_same, ?_, fun z hz => ?_⟩
    · rw [rg_len, rg_len]
      exact Nat.le_trans (show N + (m + n) ≤ 24 by omega) (by decide)
    rw [rg_app]
    have sz := Same.new0 sp4 hz (o := .lst (rg (N + (m + n)) fun i => if i < N then V.int (18 * sp) else V.int sp))
    obtain ⟨f, ef⟩ : ∃ f : Nat → Int, f = fun i => if i < N then 18 * sp else sp := ⟨_, rfl⟩
    have hzf : (rg (N + (m + n)) fun i => if i < N then V.int (18 * sp) else V.int sp) = rg (N + (m + n)) fun i => V.int (f i) := rg_congr fun i _ => by rw [ef]; show _ = V.int (if i < N then 18 * sp else sp); split <;> rfl
    have h18b : (18 * sp).natAbs < 2 ^ 300 := by
      have h1 := wide_lt (i := 18) (j := sp) (a := 5) (b := 200) (by decide) spB
      exact Nat.lt_of_lt_of_le h1 (pow_mono (by decide))
    have hspb : sp.natAbs < 2 ^ 300 := Nat.lt_of_lt_of_le spB (pow_mono (by decide))
    have hf : ∀ i, i < N + (m + n) → 0 < f i ∧ (f i).natAbs < 2 ^ 300 := fun i _ => by
      rw [ef]
      show 0 < (if i < N then 18 * sp else sp) ∧ (if i < N then 18 * sp else sp).natAbs < 2 ^ 300
      split
      · exact ⟨by omega, h18b⟩
      · exact ⟨hsp0, hspb⟩
    have s1z := s1.trans sz
    obtain ⟨H2, eH2⟩ : ∃ H2, upd (upd (upd (upd (upd H1 p1 (.lst [V.int (18 * sp)])) p2 (.lst (rg N fun _ => V.int (18 * sp)))) p3 (.lst [V.int sp])) p4 (.lst (rg (m + n) fun _ => V.int sp))) z (.lst (rg (N + (m + n)) fun i => if i < N then V.int (18 * sp) else V.int sp)) = H2 := ⟨_, rfl⟩
    have hz2 : H2 z = some (.lst (rg (N + (m + n)) fun i => V.int (f i))) := by rw [← eH2, upd_same, hzf]
    rw [eH2] at s1z ⊢
    refine ⟨_, rfl, _, rfl, _, rfl, a, z, ks, N + (m + n), f, rfl, ha.same s1z, hz2, by omega, fun i hi => ⟨(hf i hi).1, Nat.lt_of_lt_of_le (hf i hi).2 (pow_mono (by decide))⟩, fun H3 l d s3 hl hd hdb => ?_⟩
    have s13 := s1z.trans s3
    -- the slices
    refine ⟨_, rfl, _, rfl, _, rfl, _, _, rfl, rfl, hmul, _, rfl, _, rfl, _, rfl, _, _, rfl, rfl, hmul, _, rfl, _, _, rfl, rfl, _, rfl, l, _, rfl, SqL.of hd, fun hi0 hhi => ?_⟩
    have ecut : cutV (rg (N + (m + n)) fun i => V.int (d i)) (some ((m : Int) * (n : Int))) (some ((m : Int) * (n : Int) + (m : Int))) = rg m fun i => V.int (d (N + i)) := by
      rw [cN, show (N : Int) + (m : Int) = ((N + m : Nat) : Int) by omega, cut_rg _ _ _ (by omega) (by omega), show N + m - N = m by omega]
    have ecut2 : cutV (rg (N + (m + n)) fun i => V.int (d i)) (some ((m : Int) * (n : Int) + (m : Int))) none = rg n fun i => V.int (d (N + m + i)) := by
      rw [cN, show (N : Int) + (m : Int) = ((N + m : Nat) : Int) by omega, cut_rg_end _ _ (by omega), show N + (m + n) - (N + m) = n by omega]
    have shh := Same.new hhi (o := .lst (rg m fun i => V.int (d (N + i))))
    rw [show cutV (rg (N + (m + n)) fun i => V.int (d i)) (some ((fun i j => (i * j : Int)) (m : Int) (n : Int))) (some ((fun i j => (i + j : Int)) ((fun i j => (i * j : Int)) (m : Int) (n : Int)) (m : Int))) = rg m fun i => V.int (d (N + i)) from ecut]
    refine ⟨_, rfl, _, rfl, _, rfl, _, _, rfl, rfl, hmul, _, rfl, _, _, rfl, rfl, _, rfl, l, _, rfl, SqL.of (shh _ _ hd), fun wi hwi => ?_⟩
    rw [show cutV (rg (N + (m + n)) fun i => V.int (d i)) (some ((fun i j => (i + j : Int)) ((fun i j => (i * j : Int)) (m : Int) (n : Int)) (m : Int))) none = rg n fun i => V.int (d (N + m + i)) from ecut2]
    have swi := Same.new0 shh hwi (o := .lst (rg n fun i => V.int (d (N + m + i))))
    refine ⟨Nat.zero_le _, fun D hD => ?_⟩
    have s3D := s13.trans swi
    have hd5 := swi _ _ hd
    have hh5 : upd (upd H3 hi0 (.lst (rg m fun i => V.int (d (N + i))))) wi (.lst (rg n fun i => V.int (d (N + m + i)))) hi0 = some (.lst (rg m fun i => V.int (d (N + i)))) := (upd_ne (ne_of_none upd_same hwi)).trans upd_same
    have hw5 : upd (upd H3 hi0 (.lst (rg m fun i => V.int (d (N + i))))) wi (.lst (rg n fun i => V.int (d (N + m + i)))) wi = some (.lst (rg n fun i => V.int (d (N + m + i)))) := upd_same
    obtain ⟨H5, eH5⟩ : ∃ H5, upd (upd H3 hi0 (.lst (rg m fun i => V.int (d (N + i))))) wi (.lst (rg n fun i => V.int (d (N + m + i)))) = H5 := ⟨_, rfl⟩
    rw [eH5] at hd5 hh5 hw5 s3D hD ⊢
    have db : ∀ i, i < N + (m + n) → 0 ≤ d i ∧ (d i).natAbs < 2 ^ 300 := fun i hi => ⟨(hdb i hi).1, wide_le (hdb i hi).1 (Int.le_of_lt (hdb i hi).2) (hf i hi).2⟩
    refine ⟨_, rfl, (m : Int), rfl, by omega, by omega, ?_⟩
    refine for_it (walk_rg (n := m)) (fun i σ H' => ∃ (v12 v13 v14 v15 v16 : Option V) (c : Nat → Nat → Option Int) (r : Nat → Addr), σ = [some (.ref a), some (.int (ks : Int)), some (.int (m : Int)), some (.int (n : Int)), some (.int (st : Int)), some (.int (sh : Int)), some (.int sp), some (.ref z), some (.ref l), some (.ref hi0), some (.ref wi), some (.ref D), v12, v13, v14, v15, v16] ∧
        Part H5 H' D i n (fun i j => ov (c i j)) r ∧ BdG i n c) ⟨none, none, none, none, none, fun _ _ => none, _, rfl, Part.nil hD, fun i hi => absurd hi (Nat.not_lt_zero _)⟩ (fun _ _ _ _ _ => trivial) ?_ ?_
    · rintro i x σ H' H'' hi ⟨v12, v13, v14, v15, v16, c, r, rfl, p, hc⟩ ⟨rfl, rfl⟩
      refine ⟨Nat.zero_le _, fun R hR => ?_⟩
      have hR5 : H5 R = none := p.s.free hR
      refine ⟨_, rfl, (n : Int), rfl, by omega, by omega, ?_⟩
      refine for_it (walk_rg (n := n)) (fun j σ H' => ∃ (v14 v15 v16 : Option V) (g : Nat → Option Int), σ = [some (.ref a), some (.int (ks : Int)), some (.int (m : Int)), some (.int (n : Int)), some (.int (st : Int)), some (.int (sh : Int)), some (.int sp), some (.ref z), some (.ref l), some (.ref hi0), some (.ref wi), some (.ref D), some (.int (i : Int)), some (.ref R), v14, v15, v16] ∧
          Same H'' H' ∧ H' R = some (.lst (rg j fun k => ov (g k))) ∧ ∀ j', j' < j → ∀ q, g j' = some q → Bd 1000 q) ⟨v14, v15, v16, fun _ => none, rfl, Same.new hR, upd_same, fun j hj => absurd hj (Nat.not_lt_zero _)⟩ (fun _ _ _ _ _ => trivial) ?_ ?_
      · rintro j x σ H1' H2' hj ⟨v14, v15, v16, g, rfl, s, o, hg⟩ ⟨rfl, rfl⟩
        have s5 := p.s.trans s
        have hij : i * n + j < N := by
          rw [← hN]
          have : (i + 1) * n ≤ m * n := Nat.mul_le_mul_right n hi
          rw [Nat.succ_mul] at this
          omega
        have cij : (i : Int) * (n : Int) + (j : Int) = ((i * n + j : Nat) : Int) := by rw [Int.natCast_add, Int.natCast_mul]
        refine ⟨_, rfl, _, rfl, _, rfl, _, _, rfl, rfl, wm (by omega) (by omega), _, rfl, _, _, rfl, rfl, l, _, _, V.int (d (i * n + j)), rfl, rfl, SqL.of (s5 _ _ hd5), ?_, ?_⟩
        · show atI _ ((i : Int) * (n : Int) + (j : Int)) = _
          rw [cij]
          exact atR _ (by omega)
        obtain ⟨hd0, hd1⟩ := db (i * n + j) (by omega)
        have c18 : CDivW (d (i * n + j)) 18 := ⟨by decide, by decide⟩
        have c3 : CDivW sp 3 := ⟨by decide, by decide⟩
        refine ⟨_, rfl, _, _, rfl, rfl, c18, _, rfl, _, _, rfl, rfl, c3, _, _, rfl, rfl, ?_⟩
        refine ⟨_, rfl, _, _, rfl, rfl, _, rfl, ?_⟩
        obtain ⟨nb, enb⟩ : ∃ nb : Int, d (i * n + j) = nb := ⟨_, rfl⟩
        rw [enb] at hd0 hd1 ⊢
        have b1 : (nb / 18 - sp / 3).natAbs < 2 ^ 1000 := by
          have h1 : (2 : Nat) ^ 300 ≤ 2 ^ 1000 := pow_mono (by decide)
          have h2 : (2 : Nat) ^ 200 ≤ 2 ^ 300 := pow_mono (by decide)
          generalize (2 : Nat) ^ 1000 = Z at *
          generalize (2 : Nat) ^ 300 = Y at *
          generalize (2 : Nat) ^ 200 = X at *
          clear hsp1
          omega
        obtain ⟨dh0, dh1⟩ := db (N + i) (by omega)
        obtain ⟨dw0, dw1⟩ := db (N + m + j) (by omega)
        have cw : CMulW 2 (d (N + m + j)) := wide_mul (a := 5) (b := 300) (by decide) dw1 (by decide) (by decide) (by decide)
        have chw : CMulW (d (N + i)) (d (N + m + j)) := wide_mul (a := 300) (b := 300) dh1 dw1 (by decide) (by decide) (by decide)
        have b2 : (d (N + i) + 2 * d (N + m + j) - d (N + i) * d (N + m + j)).natAbs < 2 ^ 1000 := by
          have h3 := wide_lt dh1 dw1
          have h4 : (2 : Nat) ^ 300 ≤ 2 ^ 600 := pow_mono (by decide)
          have h5 : (2 : Nat) ^ 603 ≤ 2 ^ 1000 := pow_mono (by decide)
          have h6 : (2 : Nat) ^ 603 = 2 ^ 600 * 8 := by rw [show 603 = 600 + 3 from rfl, Nat.pow_add]
          rw [h6] at h5
          rw [show 300 + 300 = 600 from rfl] at h3
          generalize (2 : Nat) ^ 1000 = Z at *
          generalize (2 : Nat) ^ 300 = Y at *
          generalize (2 : Nat) ^ 600 = X at *
          generalize d (N + i) * d (N + m + j) = W at *
          clear hsp1 b1
          omega
        refine ifs_go (fun σ H3' => ∃ pr : Int, σ = [some (.ref a), some (.int (ks : Int)), some (.int (m : Int)), some (.int (n : Int)), some (.int (st : Int)), some (.int (sh : Int)), some (.int sp), some (.ref z), some (.ref l), some (.ref hi0), some (.ref wi), some (.ref D), some (.int (i : Int)), some (.ref R), some (.int (j : Int)), some (.int nb), some (.int pr)] ∧ H2' = H3' ∧ Bd 1000 pr)
          (fun _ rest => ⟨_, rfl, _, rfl, hi0, _, _, _, rfl, rfl, SqL.of (s5 _ _ hh5), atR _ hi, _, rfl, _, rfl, wi, _, _, _, rfl, rfl, SqL.of (s5 _ _ hw5), atR _ hj, _, _, rfl, rfl, cw, _, _, rfl, rfl,
            _, rfl, _, rfl, hi0, _, _, _, rfl, rfl, SqL.of (s5 _ _ hh5), atR _ hi, _, rfl, _, rfl, wi, _, _, _, rfl, rfl, SqL.of (s5 _ _ hw5), atR _ hj, _, _, rfl, rfl, chw, _, _, rfl, rfl, rest _ _ ⟨_, rfl, rfl, b2⟩⟩)
          (fun _ rest => rest _ _ ⟨_, rfl, rfl, b1⟩) ?_
        rintro σ H3' ⟨pr, rfl, rfl, hpr⟩
        have hsz : (rg j fun k => ov (g k)).length < sizeLine := by rw [rg_len]; exact Nat.lt_of_lt_of_le hj (Nat.le_trans (show n ≤ 4 by omega) (by decide))
        have fin : ∀ po : Option Int, (∀ q, po = some q → Bd 1000 q) → ∀ v14 v15 : Option V, ∃ (v14' v15' v16' : Option V) (g' : Nat → Option Int), [some (V.ref a), some (V.int (ks : Int)), some (V.int (m : Int)), some (V.int (n : Int)), some (V.int (st : Int)), some (V.int (sh : Int)), some (V.int sp), some (V.ref z), some (V.ref l), some (V.ref hi0), some (V.ref wi), some (V.ref D), some (V.int (i : Int)), some (V.ref R), v14, v15, some (ov po)] =
            [some (.ref a), some (.int (ks : Int)), some (.int (m : Int)), some (.int (n : Int)), some (.int (st : Int)), some (.int (sh : Int)), some (.int sp), some (.ref z), some (.ref l), some (.ref hi0), some (.ref wi), some (.ref D), some (.int (i : Int)), some (.ref R), v14', v15', v16'] ∧
            Same H'' (upd H2' R (.lst ((rg j fun k => ov (g k)) ++ [ov po]))) ∧ upd H2' R (.lst ((rg j fun k => ov (g k)) ++ [ov po])) R = some (.lst (rg (j + 1) fun k => ov (g' k))) ∧ ∀ j', j' < j + 1 → ∀ q, g' j' = some q → Bd 1000 q := fun po hpo v14 v15 => by
          refine ⟨v14, v15, _, fun k => if k = j then po else g k, rfl, Same.up s hR, ?_, fun j' hj' q e => ?_⟩
          · rw [upd_same, rg_snoc']
            congr 2
            exact rg_congr fun k _ => by
              show _ = ov (if k = j then po else g k)
              split <;> rfl
          · have e : (if j' = j then po else g j') = some q := e
            by_cases z : j' = j
            · rw [if_pos z] at e; exact hpo q e
            · rw [if_neg z] at e; exact hg j' (by omega) q e
        dsimp only
        refine tifs_seq (fun Kk hK => ⟨_, rfl, _, _, rfl, rfl, _, rfl, ite2 (fun _ => ⟨_, rfl, .inl ⟨_, rfl, _, rfl, _, _, rfl, _, _, rfl, rfl, ?_, rfl, _, rfl, hK _⟩⟩) (fun _ => hK _)⟩) ?_ ?_
        · show (if (sh : Int) > 1 then (sh : Int) else 1) ≠ 0
          split <;> omega
        · refine ⟨_, rfl, .inl ⟨rfl, _, SqL.of o⟩, _, rfl, R, _, _, rfl, rfl, o, hsz, fin none (fun q e => by cases e) _ _⟩
        · refine ⟨_, rfl, .inl ⟨rfl, _, SqL.of o⟩, _, rfl, R, _, _, rfl, rfl, o, hsz, fin (some pr) (fun q e => by cases e; exact hpr) _ _⟩
      · rintro σ H6 ⟨v14, v15, v16, g, rfl, s, o, hg⟩
        have p2 := p.congr (f' := fun k j => ov (if k = i then g j else c k j)) fun j hj k _ => by
          show ov (c j k) = ov (if j = i then g k else c j k)
          rw [if_neg (by omega)]
        have o2 : H6 R = some (.lst (rg n ((fun k j => ov (if k = i then g j else c k j)) i))) := by
          rw [o]
          congr 2
          exact rg_congr fun k _ => by
            show ov (g k) = ov (if i = i then g k else c i k)
            rw [if_pos rfl]
        refine ⟨_, rfl, .inl ⟨rfl, _, SqL.of (s _ _ p.o)⟩, _, rfl, D, _, _, rfl, rfl, s _ _ p.o, by rw [rg_len]; exact Nat.lt_of_lt_of_le hi (Nat.le_trans (show m ≤ 4 by omega) (by decide)), ?_⟩
        refine ⟨_, _, _, _, _, fun k j => if k = i then g j else c k j, _, rfl, p2.step hD s hR o2, fun k hk j hj q e => ?_⟩
        have e : (if k = i then g j else c k j) = some q := e
        by_cases z : k = i
        · rw [if_pos z] at e; exact hg j hj q e
        · rw [if_neg z] at e; exact hc k (by omega) j hj q e
    · rintro σ H6 ⟨v12, v13, v14, v15, v16, c, r, rfl, p, hc⟩
      exact ⟨_, rfl, k H6 D c (s3D.trans p.s) (s3D.free hD) ⟨r, p.rows⟩ hc⟩
end
end K78
end
section
set_option Elab.async false
set_option linter.all false
set_option maxRecDepth 100000
set_option maxHeartbeats 4000000
namespace K78
open PySem PySem.Spec PyProof.Rows L2 He
/-! needs -/
def crB (c : Nat → Nat → Option Int) (i j r s : Nat) : Bool := if r = i ∨ s = j then false else if c i s = none ∨ c r j = none then false else dearB c i j r s
def lowB (o : Option Int) (v : Int) : Bool := match o with
  | none => false
  | some q => decide (q < v)
def nCross (m n : Nat) (c : Nat → Nat → Option Int) (i j : Nat) : List (List Pr) := (List.range m).flatMap fun r => (List.range n).flatMap fun s => if crB c i j r s then [[(i, s), (r, j)]] else []
def nCol (m : Nat) (c : Nat → Nat → Option Int) (i j : Nat) : List (List Pr) := (List.range m).flatMap fun r => if lowB (c r j) (vl c (i, j)) then [[(r, j)]] else []
def nRow (n : Nat) (c : Nat → Nat → Option Int) (i j : Nat) : List (List Pr) := (List.range n).flatMap fun s => if lowB (c i s) (vl c (i, j)) then [[(i, s)]] else []
def needsOf (m n : Nat) (c : Nat → Nat → Option Int) (z : Str) (q : Pr) : List (List Pr) := nCross m n c q.1 q.2 ++ (if cA z then nCol m c q.1 q.2 else []) ++ if cB z then nRow n c q.1 q.2 else []
def metB (N : List (List Pr)) (P : List Pr) : Bool := N.all fun L => L.any fun q => decide (q ∈ P)
def opens (N : Pr → List (List Pr)) (C P : List Pr) : List Pr := C.filter fun q => decide (q ∉ P) && metB (N q) P
theorem flat_len {α : Type} {n b : Nat} {f : Nat → List α} (h : ∀ i, (f i).length ≤ b) : ((List.range n).flatMap f).length ≤ n * b := by
  induction n with
  | zero => rw [Nat.zero_mul]; exact Nat.le_refl _
  | succ n ih => rw [flat_succ, List.length_append, Nat.succ_mul]; have := h n; omega
/-- lists of pairs, one by one, none of them at a -/
def NP (H : Hp) (a : Addr) (ts : List Addr) (N : List (List Pr)) : Prop := ts.length = N.length ∧ ∀ (k : Nat) (t : Addr) (L : List Pr), ts[k]? = some t → N[k]? = some L → t ≠ a ∧ PairsAt H t L
def NdAt (H : Hp) (a : Addr) (N : List (List Pr)) : Prop := ∃ ts : List Addr, H a = some (.lst (ts.map V.ref)) ∧ NP H a ts N
theorem NP.same {H H' : Hp} {a : Addr} {ts : List Addr} {N : List (List Pr)} (h : NP H a ts N) (s : Same H H') : NP H' a ts N := ⟨h.1, fun k t L e1 e2 => ⟨(h.2 k t L e1 e2).1, (h.2 k t L e1 e2).2.same s⟩⟩
theorem NdAt.same {H H' : Hp} {a : Addr} {N : List (List Pr)} (h : NdAt H a N) (s : Same H H') : NdAt H' a N := let ⟨ts, o, p⟩ := h; ⟨ts, s _ _ o, p.same s⟩
theorem pairs_upd {H : Hp} {a t : Addr} {xs ys : List V} {L : List Pr} (o : H a = some (.lst xs)) (hne : t ≠ a) (h : PairsAt H t L) : PairsAt (upd H a (.lst ys)) t L := by
  obtain ⟨ts, e, p⟩ := h
  exact ⟨ts, (upd_ne hne).trans e, p.map fun u i j eu => (upd_ne (ne_of eu o (by intro z; cases z))).trans eu⟩
theorem nd_step {H0 H H1 : Hp} {a p : Addr} {ts : List Addr} {N : List (List Pr)} {L : List Pr} (s : Same H0 H) (ha : H0 a = none) (o : H a = some (.lst (ts.map V.ref))) (np : NP H a ts N) (s1 : Same H H1) (hp : H p = none) (hP : PairsAt H1 p L) :
    Same H0 (upd H1 a (.lst (ts.map V.ref ++ [.ref p]))) ∧ upd H1 a (.lst (ts.map V.ref ++ [.ref p])) a = some (.lst ((ts ++ [p]).map V.ref)) ∧ NP (upd H1 a (.lst (ts.map V.ref ++ [.ref p]))) a (ts ++ [p]) (N ++ [L]) := by
  have hne : p ≠ a := (ne_of_none o hp).symm
  refine ⟨Same.up (s.trans s1) ha, by rw [upd_same, map_ref_snoc], by rw [List.length_append, List.length_append, np.1]; rfl, fun k t L' e1 e2 => ?_⟩
  by_cases hk : k < ts.length
  · rw [List.getElem?_append_left hk] at e1
    rw [List.getElem?_append_left (by rw [← np.1]; exact hk)] at e2
    obtain ⟨q1, q2⟩ := np.2 k t L' e1 e2
    exact ⟨q1, pairs_upd (s1 _ _ o) q1 (q2.same s1)⟩
  · have h1 := (List.getElem?_eq_some_iff.mp e1).1
    rw [List.length_append, List.length_singleton] at h1
    have h2 : k = ts.length := by omega
    subst h2
    rw [List.getElem?_append_right (Nat.le_refl _), Nat.sub_self] at e1
    rw [List.getElem?_append_right (by rw [np.1]; exact Nat.le_refl _), np.1, Nat.sub_self] at e2
    cases e1
    cases e2
    exact ⟨hne, pairs_upd (s1 _ _ o) hne hP⟩
section
variable {P : Program} {w : World} {K : PySem.W.Frag} {mg : Str → Option Value} {base : Heap}
def sp__law_spots (K : PySem.W.Frag) : Sp := fun vs H Q _ => ∃ (g : Addr) (m n : Nat) (c : Nat → Nat → Option Int), vs = [.ref g] ∧ GridAt H g m n c ∧ dim m n ∧ ∀ H' a, Same H H' → H a = none → PairsAt H' a (cells m n c) → Q (.ref a) H'
theorem ok__law_spots (E : TX K mg) : FnOk P w K mg base CX0 1 (a__law_spots K) (fdOf K (a__law_spots K)) P__law_spots (sp__law_spots K) := by
  refine (f__law_spots E).ok sc__law_spots (fun vs H Q E' h => ?_) (fun cdv A outer s H vs Q E' hr h => ?_)
  · obtain ⟨_, _, _, _, rfl, _⟩ := h; rfl
  · obtain ⟨g, m, n, c, rfl, ⟨r, hg⟩, hd, k⟩ := h
    refine ⟨_, PSs.nox (pss_cons (ps_set (i := 1) sc__law_spots.nd rfl (Or.inl rfl) (pe_lst pa_nil))
    (pss_cons (ps_for PassesOwn.never rfl (pi_enum rfl (fr_enumerate (K := K) E) (pa_cons (pv 0) pa_nil)) (pg_tup rfl (pgs_cons (pg_name (i := 2) sc__law_spots.nd rfl (Or.inl rfl)) (pgs_cons (pg_name (i := 3) sc__law_spots.nd rfl (Or.inl rfl)) pgs_nil)))
    (pss_one (ps_for PassesOwn.never rfl (pi_enum rfl (fr_enumerate (K := K) E) (pa_cons (pv 3) pa_nil)) (pg_tup rfl (pgs_cons (pg_name (i := 4) sc__law_spots.nd rfl (Or.inl rfl)) (pgs_cons (pg_name (i := 5) sc__law_spots.nd rfl (Or.inl rfl)) pgs_nil)))
    (pss_one (ps_if (pt_cmpR op_notN (pv 5) pe_non (nomark _)) (pss_one (ps_expr (pe_bm PySem.F.plainAttrs_list PySem.F.slot_list_append PySem.F.type_list_append mt_append (pv 1) (pa_cons (pe_tup (pa_cons (pv 2) (pa_cons (pv 4) pa_nil))) pa_nil)))) pss_nil)))))
    (pss_one (ps_ret (pv 1))))), ?_⟩
    refine ⟨Nat.zero_le _, fun D hD => ?_⟩
    have s0 := Same.new hD (o := .lst [])
    refine ⟨_, rfl, g, _, rfl, SqL.of (s0 _ _ hg.o), ?_⟩
    refine for_it (walk_enum (xs := rg m fun i => .ref (r i))) (fun i σ H' => ∃ (v2 v3 v4 v5 : Option V) (ts : List Addr), σ = [some (.ref g), some (.ref D), v2, v3, v4, v5] ∧ Same H H' ∧ H' D = some (.lst (ts.map V.ref)) ∧ P2 H' ts (cells i n c)) ⟨none, none, none, none, [], rfl, s0, upd_same, P2.nil _⟩ (fun i σ H' _ ⟨_, _, _, _, _, _, s, _⟩ => SqL.of (s _ _ hg.o)) ?_ ?_
    · rintro i x σ H' H'' hi ⟨v2, v3, v4, v5, ts, rfl, s, o, q⟩ ⟨T, y1, y2, rfl, hT, rfl, e1, e2⟩
      cases e1
      obtain ⟨hi', rfl⟩ := rg_of e2
      have sT : Same H (upd H' T (.tup [.int (i : Int), .ref (r i)])) := Same.new0 s hT
      refine ⟨_, _, rfl, .inl (.inl upd_same), rfl, _, _, rfl, _, _, rfl, rfl, ?_⟩
      refine ⟨_, rfl, r i, _, rfl, SqL.of (sT _ _ (hg.r i hi')), ?_⟩
      refine for_it (walk_enum (xs := rg n fun j => ov (c i j))) (fun j σ H' => ∃ (v4 v5 : Option V) (ts : List Addr), σ = [some (.ref g), some (.ref D), some (.int (i : Int)), some (.ref (r i)), v4, v5] ∧ Same H H' ∧ H' D = some (.lst (ts.map V.ref)) ∧ P2 H' ts (cells i n c ++ cellsRow j (c i) i)) ⟨v4, v5, ts, rfl, sT, (upd_ne (ne_of_none o hT)).trans o, ?_⟩ (fun j σ H' _ ⟨_, _, _, _, s, _⟩ => SqL.of (s _ _ (hg.r i hi'))) ?_ ?_
      · rw [show cellsRow 0 (c i) i = [] from rfl, List.append_nil]
        exact q.same (Same.new hT)
      · rintro j x σ H1 H2 hj ⟨v4, v5, ts1, rfl, s1, o1, q1⟩ ⟨U, z1, z2, rfl, hU, rfl, f1, f2⟩
        cases f1
        obtain ⟨hj', rfl⟩ := rg_of f2
        have sU := Same.new hU (o := .tup [.int (j : Int), ov (c i j)])
        refine ⟨_, _, rfl, .inl (.inl upd_same), rfl, _, _, rfl, _, _, rfl, rfl, ?_⟩
        refine ⟨_, rfl, rfl, _, rfl, ?_⟩
        have s2 := Same.new0 s1 hU (o := .tup [.int (j : Int), ov (c i j)])
        have o2 : upd H1 U (.tup [.int (j : Int), ov (c i j)]) D = _ := (upd_ne (ne_of_none o1 hU)).trans o1
        have q2 := q1.same sU
        rw [cellsRow_succ]
        cases e : c i j with
        | none => exact ⟨_, _, ts1, rfl, by rw [e] at s2; exact s2, by rw [e] at o2; exact o2, by rw [e] at q2; simpa using q2⟩
        | some x =>
          rw [e] at s2 o2 q2
          refine ⟨_, rfl, .inl ⟨rfl, _, SqL.of o2⟩, _, rfl, _, rfl, by show 2 ≤ sizeLine; decide, fun t ht => ?_⟩
          obtain ⟨z1, z2, z3⟩ := pairs_step (q := (i, j)) s2 hD o2 q2 ht
          refine ⟨D, _, _, rfl, rfl, (upd_ne (ne_of_none o2 ht)).trans o2, ?_, _, _, ts1 ++ [t], rfl, z1, z2, ?_⟩
          · rw [List.length_map, q1.1, List.length_append]
            have h1 := len_cells i n c
            have h2 := len_cellsRow j (c i) i
            have h3 : i * n ≤ 8 * 8 := Nat.mul_le_mul (Nat.le_trans (Nat.le_of_lt hi') hd.2.1) hd.2.2.2
            have h4 := hd.2.2.2
            refine Nat.lt_of_lt_of_le (show _ < 100 by omega) (by decide)
          · simpa using z3
      · rintro σ H1 ⟨v4, v5, ts1, rfl, s1, o1, q1⟩
        rw [rg_len] at q1
        exact ⟨_, _, _, _, ts1, rfl, s1, o1, by rw [cells_succ]; exact q1⟩
    · rintro σ H1 ⟨v2, v3, v4, v5, ts1, rfl, s1, o1, q1⟩
      rw [rg_len] at q1
      exact ⟨_, rfl, k H1 D s1 hD ⟨ts1, o1, q1⟩⟩
def sp__law_copy (K : PySem.W.Frag) : Sp := fun vs H Q _ => ∃ (g : Addr) (m n : Nat) (c : Nat → Nat → Option Int), vs = [.ref g] ∧ GridAt H g m n c ∧ m ≤ 8 ∧ ∀ H' g', Same H H' → H g' = none → GridAt H' g' m n c → Q (.ref g') H'
theorem ok__law_copy (E : TX K mg) : FnOk P w K mg base CX0 1 (a__law_copy K) (fdOf K (a__law_copy K)) P__law_copy (sp__law_copy K) := by
  refine (f__law_copy E).ok sc__law_copy (fun vs H Q E' h => ?_) (fun cdv A outer s H vs Q E' hr h => ?_)
  · obtain ⟨_, _, _, _, rfl, _⟩ := h; rfl
  · obtain ⟨g, m, n, c, rfl, ⟨r, hg⟩, hm, k⟩ := h
    refine ⟨_, PSs.nox (pss_one (ps_ret (pe_lc (own := [("_law_row", 1)]) rfl sc__law_copy.nd (pi_list (pv 0)) (blkOk_by (own := [("_law_row", 1)]) (N := N__law_copy) (sc := defScope s__law_copy) (by decide +kernel)) (fun _ _ _ _ _ => (pg_name (i := 1) sc__law_copy.nd rfl (Or.inl rfl))) (fun _ _ _ _ _ => pts_nil) (fun _ _ _ _ _ => (pe_callTy (call_list_ofK (K := K) rfl) (by rfl) (fr_list (K := K) E) (by decide +kernel) (pa_cons (pv 1) pa_nil)))))), ?_⟩
    refine ⟨_, rfl, g, rfl, ⟨_, SqL.of hg.o⟩, fun D hD => ?_⟩
    refine walk_go (walk_list (xs := rg m fun i => .ref (r i))) (fun i H' => ∃ r', Part H H' D i n (fun j l => ov (c j l)) r') ⟨_, Part.nil hD⟩ (fun i H' _ ⟨r', p⟩ => SqL.of (p.s _ _ hg.o)) ?_ ?_
    · rintro i x H' H'' hi ⟨r', p⟩ ⟨rfl, hx⟩
      obtain ⟨hi', rfl⟩ := rg_of hx
      refine ⟨rfl, _, rfl, _, _, rfl, .inl (SqL.of (p.s _ _ (hg.r i hi'))), fun l hl => ?_⟩
      exact ⟨_, (upd_ne (ne_of_none p.o hl)).trans p.o, by rw [rg_len]; exact Nat.lt_of_lt_of_le hi' (Nat.le_trans hm (by decide)), _, p.step hD (Same.new hl) hl upd_same⟩
    · rintro H' ⟨r', p⟩
      rw [rg_len] at p
      exact k H' D p.s hD ⟨r', p.rows⟩
def sp__law_cross (K : PySem.W.Frag) : Sp := fun vs H Q _ => ∃ (g : Addr) (m n i j r s : Nat) (c : Nat → Nat → Option Int), vs = [.ref g, .int (i : Int), .int (j : Int), .int (r : Int), .int (s : Int)] ∧ GridAt H g m n c ∧ i < m ∧ j < n ∧ r < m ∧ s < n ∧ (c i j).isSome = true ∧ Q (.bl (crB c i j r s)) H
theorem ok__law_cross (E : TX K mg) : FnOk P w K mg base CX0 1 (a__law_cross K) (fdOf K (a__law_cross K)) P__law_cross (sp__law_cross K) := by
  refine (f__law_cross E).ok sc__law_cross (fun vs H Q E' h => ?_) (fun cdv A outer s H vs Q E' hr h => ?_)
  · obtain ⟨_, _, _, _, _, _, _, _, rfl, _⟩ := h; rfl
  · obtain ⟨g, m, n, i, j, r, s', c, rfl, ⟨ra, hg⟩, hi, hj, hr', hs, c1, k⟩ := h
    refine ⟨_, PSs.nox (pss_cons (ps_if (PW.pt (pw_or (pt_cmpR op_eq (pv 3) (pv 1) (nomark _)) (pw_or1 (pt_cmpR op_eq (pv 4) (pv 2) (nomark _))))) (pss_one (ps_ret pe_bl)) pss_nil)
    (pss_cons (ps_if (PW.pt (pw_or (pt_cmpR op_isN (pe_ix ix_list (pe_ix ix_list (pv 0) (pv 1) (fun _ _ => rfl)) (pv 4) (fun _ _ => rfl)) pe_non (nomark _)) (pw_or1 (pt_cmpR op_isN (pe_ix ix_list (pe_ix ix_list (pv 0) (pv 3) (fun _ _ => rfl)) (pv 2) (fun _ _ => rfl)) pe_non (nomark _))))) (pss_one (ps_ret pe_bl)) pss_nil)
    (pss_cons (ps_if (pt_cmpR op_isN (pe_ix ix_list (pe_ix ix_list (pv 0) (pv 3) (fun _ _ => rfl)) (pv 4) (fun _ _ => rfl)) pe_non (nomark _)) (pss_one (ps_ret pe_bl)) pss_nil)
    (pss_cons (ps_set (i := 5) sc__law_cross.nd rfl (Or.inl rfl) (pe_op op_add (pe_ix ix_list (pe_ix ix_list (pv 0) (pv 1) (fun _ _ => rfl)) (pv 2) (fun _ _ => rfl)) (pe_ix ix_list (pe_ix ix_list (pv 0) (pv 3) (fun _ _ => rfl)) (pv 4) (fun _ _ => rfl))))
    (pss_one (ps_ret (pe_cmpR op_gt (pv 5) (pe_op op_add (pe_ix ix_list (pe_ix ix_list (pv 0) (pv 1) (fun _ _ => rfl)) (pv 4) (fun _ _ => rfl)) (pe_ix ix_list (pe_ix ix_list (pv 0) (pv 3) (fun _ _ => rfl)) (pv 2) (fun _ _ => rfl))) (nomark _)))))))), ?_⟩
    have gv : ∀ {x y : Nat}, x < m → y < n → atI (rg n fun y => ov (c x y)) (y : Int) = some (ov (c x y)) := fun {x y} hx hy => atR (fun y => ov (c x y)) hy
    have dI : ∀ x y : Nat, decide (V.int (x : Int) = V.int (y : Int)) = decide (x = y) := fun x y => by
      by_cases e : x = y
      · rw [e, decide_eq_true rfl, decide_eq_true rfl]
      · rw [decide_eq_false e]
        exact decide_eq_false fun z => by injection z with z; omega
    unfold crB at k
    refine ⟨_, rfl, _, rfl, rfl, _, rfl, ?_⟩
    rw [dI]
    by_cases e1 : r = i
    · rw [if_pos (.inl e1)] at k
      rw [decide_eq_true e1]
      exact k
    rw [decide_eq_false e1]
    refine ⟨_, rfl, _, rfl, rfl, _, rfl, ?_⟩
    rw [dI]
    by_cases e2 : s' = j
    · rw [if_pos (.inr e2)] at k
      rw [decide_eq_true e2]
      exact k
    rw [decide_eq_false e2]
    rw [if_neg (by omega)] at k
    refine ⟨_, rfl, _, rfl, g, _, _, _, rfl, rfl, SqL.of hg.o, atR _ hi, _, rfl, _, _, _, _, rfl, rfl, SqL.of (hg.r i hi), gv hi hs, rfl, _, rfl, ?_⟩
    cases e3 : c i s' with
    | none =>
      rw [if_pos (.inl e3)] at k
      exact k
    | some p1 =>
      refine ⟨_, rfl, _, rfl, g, _, _, _, rfl, rfl, SqL.of hg.o, atR _ hr', _, rfl, _, _, _, _, rfl, rfl, SqL.of (hg.r r hr'), gv hr' hj, rfl, _, rfl, ?_⟩
      cases e4 : c r j with
      | none =>
        rw [if_pos (.inr e4)] at k
        exact k
      | some p2 =>
        rw [if_neg (by rw [e3, e4]; simp)] at k
        unfold dearB at k
        refine ⟨_, rfl, _, rfl, g, _, _, _, rfl, rfl, SqL.of hg.o, atR _ hr', _, rfl, _, _, _, _, rfl, rfl, SqL.of (hg.r r hr'), gv hr' hs, rfl, _, rfl, ?_⟩
        cases e : c r s' with
        | none => rw [e] at k; exact k
        | some z =>
          rw [e] at k
          have f1 := ov_vl (q := (i, j)) c1
          have f2 := ov_vl (c := c) (q := (i, s')) (by show (c i s').isSome = true; rw [e3]; rfl)
          have f3 := ov_vl (c := c) (q := (r, j)) (by show (c r j).isSome = true; rw [e4]; rfl)
          have f4 := ov_vl (c := c) (q := (r, s')) (by show (c r s').isSome = true; rw [e]; rfl)
          refine ⟨_, rfl, _, rfl, g, _, _, _, rfl, rfl, SqL.of hg.o, atR _ hi, _, rfl, _, _, _, _, rfl, rfl, SqL.of (hg.r i hi), (gv hi hj).trans (congrArg some f1), ?_⟩
          refine ⟨_, rfl, _, rfl, g, _, _, _, rfl, rfl, SqL.of hg.o, atR _ hr', _, rfl, _, _, _, _, rfl, rfl, SqL.of (hg.r r hr'), (gv hr' hs).trans (congrArg some f4), _, _, rfl, rfl, ?_⟩
          refine ⟨_, rfl, _, rfl, _, rfl, g, _, _, _, rfl, rfl, SqL.of hg.o, atR _ hi, _, rfl, _, _, _, _, rfl, rfl, SqL.of (hg.r i hi), (gv hi hs).trans (congrArg some f2), ?_⟩
          exact ⟨_, rfl, _, rfl, g, _, _, _, rfl, rfl, SqL.of hg.o, atR _ hr', _, rfl, _, _, _, _, rfl, rfl, SqL.of (hg.r r hr'), (gv hr' hj).trans (congrArg some f3), _, _, rfl, rfl, _, _, rfl, rfl, k⟩
end
end K78
end
section
set_option Elab.async false
set_option linter.all false
set_option maxRecDepth 100000
set_option maxHeartbeats 4000000
namespace K78
open PySem PySem.Spec PyProof.Rows L2 He
theorem tifs_of {c : TT} {A B : TS} {D : Ends} {σ : L2.St} {H : Hp} (b : Bool) (hc : ∀ K : Bool → Hp → Prop, K b H → c σ H K) (hA : b = true → A D σ H) (hB : b = false → B D σ H) : tIfS c A B D σ H := hc _ (by
  cases b with
  | true => exact iteT (hA rfl)
  | false => exact iteF (hB rfl))
theorem tifs_pp {c : TT} {A B R : TS} {D : Ends} {σ : L2.St} {H : Hp} (b : Bool) (hc : ∀ K : Bool → Hp → Prop, K b H → c σ H K) (PP : L2.St → Hp → Prop) (hA : b = true → (∀ σ H, PP σ H → R D σ H) → A { D with nx := R D } σ H) (hB : b = false → (∀ σ H, PP σ H → R D σ H) → B { D with nx := R D } σ H)
    (rest : ∀ σ H, PP σ H → R D σ H) : tSeq (tIfS c A B) R D σ H := tifs_of b hc (fun e => hA e rest) fun e => hB e rest
section
variable {P : Program} {w : World} {K : PySem.W.Frag} {mg : Str → Option Value} {base : Heap}
def sp__law_needs_of (K : PySem.W.Frag) : Sp := fun vs H Q _ => ∃ (g : Addr) (m n i j : Nat) (z : Str) (c : Nat → Nat → Option Int), vs = [.ref g, .int (i : Int), .int (j : Int), .str z] ∧ GridAt H g m n c ∧ dim m n ∧ i < m ∧ j < n ∧ (c i j).isSome = true ∧
  ∀ H' a, Same H H' → H a = none → NdAt H' a (needsOf m n c z (i, j)) → Q (.ref a) H'
theorem ok__law_needs_of (E : TX K mg) : FnOk P w K mg base CX0 2 (a__law_needs_of K) (fdOf K (a__law_needs_of K)) P__law_needs_of (sp__law_needs_of K) := by
  refine (f__law_needs_of E).ok sc__law_needs_of (fun vs H Q E' h => ?_) (fun cdv A outer s H vs Q E' hr h => ?_)
  · obtain ⟨_, _, _, _, _, _, _, rfl, _⟩ := h; rfl
  · obtain ⟨g, m, n, i, j, z, c, rfl, ⟨r, hg⟩, hd, hi, hj, hc, k⟩ := h
    refine ⟨_, PSs.nox (pss_cons (ps_set (i := 4) sc__law_needs_of.nd rfl (Or.inl rfl) (pe_lst pa_nil))
    (pss_cons (ps_for PassesOwn.never rfl (pi_range1 rfl (fr_range (K := K) E) (pa_cons (pe_callB call_len_seq (by rfl) (fr_len (K := K) E) boot_len (pa_cons (pv 0) pa_nil)) pa_nil)) (pg_name (i := 5) sc__law_needs_of.nd rfl (Or.inl rfl))
    (pss_one (ps_for PassesOwn.never rfl (pi_range1 rfl (fr_range (K := K) E) (pa_cons (pe_callB call_len_seq (by rfl) (fr_len (K := K) E) boot_len (pa_cons (pe_ix ix_list (pv 0) pe_int (fun _ _ => rfl)) pa_nil)) pa_nil)) (pg_name (i := 6) sc__law_needs_of.nd rfl (Or.inl rfl))
    (pss_one (ps_if (pt_val (pe_call (ok__law_cross (K := K) E) (hr.mono (by decide)) rfl (g__law_cross (K := K) E) (k__law_cross (K := K) E) (b__law_cross (K := K) E) .nil pass0 (pa_cons (pv 0) (pa_cons (pv 1) (pa_cons (pv 2) (pa_cons (pv 5) (pa_cons (pv 6) pa_nil))))))) (pss_one (ps_expr (pe_bm PySem.F.plainAttrs_list PySem.F.slot_list_append PySem.F.type_list_append mt_append (pv 4) (pa_cons (pe_lst (pa_cons (pe_tup (pa_cons (pv 1) (pa_cons (pv 6) pa_nil))) (pa_cons (pe_tup (pa_cons (pv 5) (pa_cons (pv 2) pa_nil))) pa_nil))) pa_nil)))) pss_nil)))))
    (pss_cons (ps_if (PW.pt (pw_or (pt_cmpR op_eq (pv 3) pe_str (nomark _)) (pw_or1 (pt_cmpR op_eq (pv 3) pe_str (nomark _))))) (pss_one (ps_for PassesOwn.never rfl (pi_range1 rfl (fr_range (K := K) E) (pa_cons (pe_callB call_len_seq (by rfl) (fr_len (K := K) E) boot_len (pa_cons (pv 0) pa_nil)) pa_nil)) (pg_name (i := 5) sc__law_needs_of.nd rfl (Or.inl rfl))
    (pss_one (ps_if (PW.pt (pw_and (pt_cmpR op_notN (pe_ix ix_list (pe_ix ix_list (pv 0) (pv 5) (fun _ _ => rfl)) (pv 2) (fun _ _ => rfl)) pe_non (nomark _)) (pw_and1 (pt_cmpR op_lt (pe_ix ix_list (pe_ix ix_list (pv 0) (pv 5) (fun _ _ => rfl)) (pv 2) (fun _ _ => rfl)) (pe_ix ix_list (pe_ix ix_list (pv 0) (pv 1) (fun _ _ => rfl)) (pv 2) (fun _ _ => rfl)) (nomark _))))) (pss_one (ps_expr (pe_bm PySem.F.plainAttrs_list PySem.F.slot_list_append PySem.F.type_list_append mt_append (pv 4) (pa_cons (pe_lst (pa_cons (pe_tup (pa_cons (pv 5) (pa_cons (pv 2) pa_nil))) pa_nil)) pa_nil)))) pss_nil)))) pss_nil)
    (pss_cons (ps_if (PW.pt (pw_or (pt_cmpR op_eq (pv 3) pe_str (nomark _)) (pw_or1 (pt_cmpR op_eq (pv 3) pe_str (nomark _))))) (pss_one (ps_for PassesOwn.never rfl (pi_range1 rfl (fr_range (K := K) E) (pa_cons (pe_callB call_len_seq (by rfl) (fr_len (K := K) E) boot_len (pa_cons (pe_ix ix_list (pv 0) pe_int (fun _ _ => rfl)) pa_nil)) pa_nil)) (pg_name (i := 6) sc__law_needs_of.nd rfl (Or.inl rfl))
    (pss_one (ps_if (PW.pt (pw_and (pt_cmpR op_notN (pe_ix ix_list (pe_ix ix_list (pv 0) (pv 1) (fun _ _ => rfl)) (pv 6) (fun _ _ => rfl)) pe_non (nomark _)) (pw_and1 (pt_cmpR op_lt (pe_ix ix_list (pe_ix ix_list (pv 0) (pv 1) (fun _ _ => rfl)) (pv 6) (fun _ _ => rfl)) (pe_ix ix_list (pe_ix ix_list (pv 0) (pv 1) (fun _ _ => rfl)) (pv 2) (fun _ _ => rfl)) (nomark _))))) (pss_one (ps_expr (pe_bm PySem.F.plainAttrs_list PySem.F.slot_list_append PySem.F.type_list_append mt_append (pv 4) (pa_cons (pe_lst (pa_cons (pe_tup (pa_cons (pv 1) (pa_cons (pv 6) pa_nil))) pa_nil)) pa_nil)))) pss_nil)))) pss_nil)
    (pss_one (ps_ret (pv 4))))))), ?_⟩
    have ix0 : atI (rg m fun i => V.ref (r i)) 0 = some (V.ref (r 0)) := atR (i := 0) _ (by omega)
    have hm8 := hd.2.1
    have hn8 := hd.2.2.2
    refine ⟨Nat.zero_le _, fun O hO => ?_⟩
    have s0 := Same.new hO (o := .lst [])
    -- one more need
    have push1 : ∀ {H' : Hp} {ts : List Addr} {N : List (List Pr)} {q : Pr}, Same H H' → H' O = some (.lst (ts.map V.ref)) → NP H' O ts N → ∀ t p, H' t = none → upd H' t (.tup [.int (q.1 : Int), .int (q.2 : Int)]) p = none →
        ∃ H1, H1 = upd (upd H' t (.tup [.int (q.1 : Int), .int (q.2 : Int)])) p (.lst [.ref t]) ∧ H1 O = some (.lst (ts.map V.ref)) ∧ Same H (upd H1 O (.lst (ts.map V.ref ++ [.ref p]))) ∧ upd H1 O (.lst (ts.map V.ref ++ [.ref p])) O = some (.lst ((ts ++ [p]).map V.ref)) ∧ NP (upd H1 O (.lst (ts.map V.ref ++ [.ref p]))) O (ts ++ [p]) (N ++ [[q]]) := fun {H' ts N q} s o np t p ht hp => by
      have st := Same.new ht (o := .tup [.int (q.1 : Int), .int (q.2 : Int)])
      have sp := Same.new0 st hp (o := .lst [.ref t])
      have hpp : PairsAt (upd (upd H' t (.tup [.int (q.1 : Int), .int (q.2 : Int)])) p (.lst [.ref t])) p [q] := ⟨[t], upd_same, P2.snoc (ts := []) (L := []) (P2.nil _) ((upd_ne (ne_of_none upd_same hp)).trans upd_same)⟩
      obtain ⟨z1, z2, z3⟩ := nd_step s hO o np sp (st.free hp) hpp
      exact ⟨_, rfl, sp _ _ o, z1, z2, z3⟩
    refine ⟨_, rfl, g, _, rfl, .inl (SqL.of (s0 _ _ hg.o)), ?_⟩
    rw [rg_len]
    refine ⟨_, rfl, by omega, by omega, ?_⟩
    refine for_it (walk_rg (n := m)) (fun a σ H' => ∃ (v5 v6 : Option V) (ts : List Addr), σ = [some (.ref g), some (.int (i : Int)), some (.int (j : Int)), some (.str z), some (.ref O), v5, v6] ∧ Same H H' ∧ H' O = some (.lst (ts.map V.ref)) ∧ NP H' O ts (nCross a n c i j)) ⟨none, none, [], rfl, s0, upd_same, rfl, fun _ _ _ e => nomatch e⟩ (fun _ _ _ _ _ => trivial) ?_ ?_
    · rintro a x σ H' H'' ha ⟨v5, v6, ts, rfl, s, o, np⟩ ⟨rfl, rfl⟩
      refine ⟨_, rfl, g, _, _, _, rfl, rfl, SqL.of (s _ _ hg.o), ix0, _, _, rfl, .inl (SqL.of (s _ _ (hg.r 0 (by omega)))), ?_⟩
      rw [rg_len]
      refine ⟨_, rfl, by omega, by omega, ?_⟩
      refine for_it (walk_rg (n := n)) (fun b σ H' => ∃ (v6 : Option V) (ts : List Addr), σ = [some (.ref g), some (.int (i : Int)), some (.int (j : Int)), some (.str z), some (.ref O), some (.int (a : Int)), v6] ∧ Same H H' ∧ H' O = some (.lst (ts.map V.ref)) ∧ NP H' O ts (nCross a n c i j ++ (List.range b).flatMap fun s => if crB c i j a s then [[(i, s), (a, j)]] else []))
        ⟨v6, ts, rfl, s, o, by rw [List.range_zero, List.flatMap_nil, List.append_nil]; exact np⟩ (fun _ _ _ _ _ => trivial) ?_ ?_
      · rintro b x σ H1 H2 hb ⟨v6, ts, rfl, s, o, np⟩ ⟨rfl, rfl⟩
        refine ⟨_, rfl, _, rfl, _, rfl, _, rfl, _, rfl, g, m, n, i, j, a, b, c, rfl, ⟨r, hg.same s⟩, hi, hj, ha, hb, hc, _, rfl, ?_⟩
        rw [flat_succ]
        cases e : crB c i j a b with
        | false => exact ⟨_, ts, rfl, s, o, by simpa using np⟩
        | true =>
          refine ⟨_, rfl, .inl ⟨rfl, _, SqL.of o⟩, ?_⟩
          refine ⟨_, rfl, _, rfl, by show 2 ≤ sizeLine; decide, fun t1 ht1 => ?_⟩
          refine ⟨_, rfl, _, rfl, by show 2 ≤ sizeLine; decide, fun t2 ht2 => ?_⟩
          refine ⟨by show 2 ≤ sizeLine; decide, fun p hp => ?_⟩
          have st1 := Same.new ht1 (o := .tup [.int (i : Int), .int (b : Int)])
          have st2 := Same.new0 st1 ht2 (o := .tup [.int (a : Int), .int (j : Int)])
          have sp := Same.new0 st2 hp (o := .lst [.ref t1, .ref t2])
          have hpp : PairsAt (upd (upd (upd H2 t1 (.tup [.int (i : Int), .int (b : Int)])) t2 (.tup [.int (a : Int), .int (j : Int)])) p (.lst [.ref t1, .ref t2])) p [(i, b), (a, j)] := by
            refine ⟨[t1, t2], upd_same, P2.snoc (ts := [t1]) (L := [(i, b)]) (P2.snoc (ts := []) (L := []) (P2.nil _) ?_) ?_⟩
            · exact (upd_ne (ne_of_none ((upd_ne (ne_of_none upd_same ht2)).trans upd_same) hp)).trans ((upd_ne (ne_of_none upd_same ht2)).trans upd_same)
            · exact (upd_ne (ne_of_none upd_same hp)).trans upd_same
          obtain ⟨z1, z2, z3⟩ := nd_step s hO o np sp (st2.free hp) hpp
          refine ⟨O, _, _, rfl, rfl, sp _ _ o, ?_, _, _, rfl, z1, z2, by simpa using z3⟩
          rw [List.length_map, np.1, List.length_append]
          have h1 : (nCross a n c i j).length ≤ a * (n * 1) := flat_len fun r => flat_len fun s => by split <;> simp
          have h2 : ((List.range b).flatMap fun s => if crB c i j a s then [[(i, s), (a, j)]] else []).length ≤ b * 1 := flat_len fun s => by split <;> simp
          have h3 : a * (n * 1) ≤ 8 * (8 * 1) := Nat.mul_le_mul (by omega) (Nat.mul_le_mul hn8 (Nat.le_refl _))
          exact Nat.lt_of_le_of_lt (show _ ≤ 80 by omega) (by decide)
      · rintro σ H1 ⟨v6, ts, rfl, s, o, np⟩
        refine ⟨_, _, ts, rfl, s, o, ?_⟩
        rw [show nCross (a + 1) n c i j = nCross a n c i j ++ (List.range n).flatMap fun s => if crB c i j a s then [[(i, s), (a, j)]] else [] from flat_succ a _]
        exact np
    rintro σ H1 ⟨v5, v6, ts, rfl, s1, o1, np1⟩
    have hl1 : (nCross m n c i j).length ≤ 64 := Nat.le_trans (flat_len (b := n * 1) fun r => flat_len fun s => by split <;> simp) (Nat.mul_le_mul hm8 (Nat.mul_le_mul hn8 (Nat.le_refl _)))
    dsimp only
    have gv : ∀ {H' : Hp} {x y : Nat}, Same H H' → x < m → y < n → SqL K H' g (rg m fun i => V.ref (r i)) ∧ atI (rg m fun i => V.ref (r i)) (x : Int) = some (.ref (r x)) ∧ SqL K H' (r x) (rg n fun y => ov (c x y)) ∧ atI (rg n fun y => ov (c x y)) (y : Int) = some (ov (c x y)) := fun {H' x y} s hx hy =>
      ⟨SqL.of (s _ _ hg.o), atR _ hx, SqL.of (s _ _ (hg.r x hx)), atR (fun y => ov (c x y)) hy⟩
    have hij := ov_vl (q := (i, j)) hc
    refine tifs_pp (cA z) (fun Kk hK => ?_) (fun σ H' => ∃ (v5 v6 : Option V) (ts : List Addr), σ = [some (.ref g), some (.int (i : Int)), some (.int (j : Int)), some (.str z), some (.ref O), v5, v6] ∧ Same H H' ∧ H' O = some (.lst (ts.map V.ref)) ∧ NP H' O ts (nCross m n c i j ++ if cA z then nCol m c i j else [])) (fun hA rest => ?_) (fun hA rest => ?_) ?_
    · refine ⟨_, rfl, rfl, _, rfl, ?_⟩
      unfold cA at hK
      by_cases e : V.str z = V.str "stock"
      · rw [decide_eq_true e] at hK ⊢
        exact hK
      · rw [decide_eq_false e] at hK ⊢
        exact ⟨_, rfl, rfl, _, rfl, hK⟩
    · rw [hA] at rest
      refine ⟨_, rfl, g, _, rfl, .inl (SqL.of (s1 _ _ hg.o)), ?_⟩
      rw [rg_len]
      refine ⟨_, rfl, by omega, by omega, ?_⟩
      refine for_it (walk_rg (n := m)) (fun a σ H' => ∃ (v5 : Option V) (ts : List Addr), σ = [some (.ref g), some (.int (i : Int)), some (.int (j : Int)), some (.str z), some (.ref O), v5, v6] ∧ Same H H' ∧ H' O = some (.lst (ts.map V.ref)) ∧ NP H' O ts (nCross m n c i j ++ nCol a c i j)) ⟨v5, ts, rfl, s1, o1, by rw [show nCol 0 c i j = [] from rfl, List.append_nil]; exact np1⟩ (fun _ _ _ _ _ => trivial) ?_ ?_
      · rintro a x σ H2 H3 ha ⟨v5, ts, rfl, s, o, np⟩ ⟨rfl, rfl⟩
        obtain ⟨p1, p2, p3, p4⟩ := gv s ha hj
        obtain ⟨q1, q2, q3, q4⟩ := gv s hi hj
        rw [show nCol (a + 1) c i j = nCol a c i j ++ if lowB (c a j) (vl c (i, j)) then [[(a, j)]] else [] from flat_succ a _]
        refine tifs_of (lowB (c a j) (vl c (i, j))) (fun Kk hK => ?_) (fun hb => ?_) (fun hb => ?_)
        · refine ⟨_, rfl, _, rfl, _, _, _, _, rfl, rfl, p1, p2, _, rfl, _, _, _, _, rfl, rfl, p3, p4, rfl, _, rfl, ?_⟩
          unfold lowB at hK
          cases e : c a j with
          | none => rw [e] at hK; exact hK
          | some y =>
            rw [e] at hK
            have q4' := q4.trans (congrArg some hij)
            rw [e] at p4
            exact ⟨_, rfl, _, rfl, _, _, _, _, rfl, rfl, p1, p2, _, rfl, _, _, _, _, rfl, rfl, p3, p4, _, rfl, _, rfl, _, _, _, _, rfl, rfl, q1, q2, _, rfl, _, _, _, _, rfl, rfl, q3, q4', _, _, rfl, rfl, _, rfl, hK⟩
        · rw [hb]
          refine ⟨_, rfl, .inl ⟨rfl, _, SqL.of o⟩, _, rfl, _, rfl, by show 2 ≤ sizeLine; decide, fun t ht => ⟨Nat.succ_le_of_lt (by decide), fun p hp => ?_⟩⟩
          obtain ⟨H4, rfl, z0, z1, z2, z3⟩ := push1 (q := (a, j)) s o np t p ht hp
          refine ⟨O, _, _, rfl, rfl, z0, ?_, _, _, rfl, z1, z2, by simpa using z3⟩
          rw [List.length_map, np.1, List.length_append]
          have h2 : (nCol a c i j).length ≤ a * 1 := flat_len fun s => by split <;> simp
          exact Nat.lt_of_le_of_lt (show _ ≤ 80 by omega) (by decide)
        · rw [hb]
          exact ⟨_, ts, rfl, s, o, by simpa using np⟩
      · rintro σ H2 ⟨v5, ts, rfl, s, o, np⟩
        exact rest _ _ ⟨_, _, ts, rfl, s, o, np⟩
    · rw [hA] at rest
      exact rest _ _ ⟨_, _, ts, rfl, s1, o1, by simpa using np1⟩
    rintro σ H1 ⟨v5, v6, ts, rfl, s1, o1, np1⟩
    have hl2 : (nCross m n c i j ++ if cA z then nCol m c i j else []).length ≤ 72 := by
      rw [List.length_append]
      have h2 : (nCol m c i j).length ≤ m * 1 := flat_len fun s => by split <;> simp
      split <;> simp <;> omega
    refine tifs_pp (cB z) (fun Kk hK => ?_) (fun σ H' => ∃ (v5 v6 : Option V) (ts : List Addr), σ = [some (.ref g), some (.int (i : Int)), some (.int (j : Int)), some (.str z), some (.ref O), v5, v6] ∧ Same H H' ∧ H' O = some (.lst (ts.map V.ref)) ∧ NP H' O ts (needsOf m n c z (i, j))) (fun hA rest => ?_) (fun hA rest => ?_) ?_
    · refine ⟨_, rfl, rfl, _, rfl, ?_⟩
      unfold cB at hK
      by_cases e : V.str z = V.str "wish"
      · rw [decide_eq_true e] at hK ⊢
        exact hK
      · rw [decide_eq_false e] at hK ⊢
        exact ⟨_, rfl, rfl, _, rfl, hK⟩
    · have eN : needsOf m n c z (i, j) = (nCross m n c i j ++ if cA z then nCol m c i j else []) ++ nRow n c i j := by unfold needsOf; rw [hA]; rfl
      rw [eN] at rest
      refine ⟨_, rfl, g, _, _, _, rfl, rfl, SqL.of (s1 _ _ hg.o), ix0, _, _, rfl, .inl (SqL.of (s1 _ _ (hg.r 0 (by omega)))), ?_⟩
      rw [rg_len]
      refine ⟨_, rfl, by omega, by omega, ?_⟩
      refine for_it (walk_rg (n := n)) (fun a σ H' => ∃ (v6 : Option V) (ts : List Addr), σ = [some (.ref g), some (.int (i : Int)), some (.int (j : Int)), some (.str z), some (.ref O), v5, v6] ∧ Same H H' ∧ H' O = some (.lst (ts.map V.ref)) ∧ NP H' O ts ((nCross m n c i j ++ if cA z then nCol m c i j else []) ++ nRow a c i j)) ⟨v6, ts, rfl, s1, o1, by rw [show nRow 0 c i j = [] from rfl, List.append_nil]; exact np1⟩ (fun _ _ _ _ _ => trivial) ?_ ?_
      · rintro a x σ H2 H3 ha ⟨v6, ts, rfl, s, o, np⟩ ⟨rfl, rfl⟩
        obtain ⟨p1, p2, p3, p4⟩ := gv s hi ha
        obtain ⟨q1, q2, q3, q4⟩ := gv s hi hj
        rw [show nRow (a + 1) c i j = nRow a c i j ++ if lowB (c i a) (vl c (i, j)) then [[(i, a)]] else [] from flat_succ a _]
        refine tifs_of (lowB (c i a) (vl c (i, j))) (fun Kk hK => ?_) (fun hb => ?_) (fun hb => ?_)
        · refine ⟨_, rfl, _, rfl, _, _, _, _, rfl, rfl, p1, p2, _, rfl, _, _, _, _, rfl, rfl, p3, p4, rfl, _, rfl, ?_⟩
          unfold lowB at hK
          cases e : c i a with
          | none => rw [e] at hK; exact hK
          | some y =>
            rw [e] at hK
            have q4' := q4.trans (congrArg some hij)
            rw [e] at p4
            exact ⟨_, rfl, _, rfl, _, _, _, _, rfl, rfl, p1, p2, _, rfl, _, _, _, _, rfl, rfl, p3, p4, _, rfl, _, rfl, _, _, _, _, rfl, rfl, q1, q2, _, rfl, _, _, _, _, rfl, rfl, q3, q4', _, _, rfl, rfl, _, rfl, hK⟩
        · rw [hb]
          refine ⟨_, rfl, .inl ⟨rfl, _, SqL.of o⟩, _, rfl, _, rfl, by show 2 ≤ sizeLine; decide, fun t ht => ⟨Nat.succ_le_of_lt (by decide), fun p hp => ?_⟩⟩
          obtain ⟨H4, rfl, z0, z1, z2, z3⟩ := push1 (q := (i, a)) s o np t p ht hp
          refine ⟨O, _, _, rfl, rfl, z0, ?_, _, _, rfl, z1, z2, by simpa using z3⟩
          rw [List.length_map, np.1, List.length_append]
          have h2 : (nRow a c i j).length ≤ a * 1 := flat_len fun s => by split <;> simp
          exact Nat.lt_of_le_of_lt (show _ ≤ 90 by omega) (by decide)
        · rw [hb]
          exact ⟨_, ts, rfl, s, o, by simpa using np⟩
      · rintro σ H2 ⟨v6, ts, rfl, s, o, np⟩
        exact rest _ _ ⟨_, _, ts, rfl, s, o, np⟩
    · have eN : needsOf m n c z (i, j) = (nCross m n c i j ++ if cA z then nCol m c i j else []) ++ [] := by unfold needsOf; rw [hA]; rfl
      rw [eN] at rest
      exact rest _ _ ⟨_, _, ts, rfl, s1, o1, by simpa using np1⟩
    rintro σ H2 ⟨v5, v6, ts, rfl, s, o, np⟩
    exact ⟨_, rfl, k H2 O s hO ⟨ts, o, np⟩⟩
end
end K78
end
section
set_option Elab.async false
set_option linter.all false
set_option maxRecDepth 100000
set_option maxHeartbeats 4000000
namespace K78
open PySem PySem.Spec PyProof.Rows L2 He
theorem len_needsOf (m n : Nat) (c : Nat → Nat → Option Int) (z : Str) (q : Pr) (h : dim m n) : (needsOf m n c z q).length ≤ 90 := by
  unfold needsOf
  rw [List.length_append, List.length_append]
  have h1 : (nCross m n c q.1 q.2).length ≤ 64 := Nat.le_trans (flat_len (b := n * 1) fun r => flat_len fun s => by split <;> simp) (Nat.mul_le_mul h.2.1 (Nat.mul_le_mul h.2.2.2 (Nat.le_refl _)))
  have h2 : (nCol m c q.1 q.2).length ≤ m * 1 := flat_len fun s => by split <;> simp
  have h3 : (nRow n c q.1 q.2).length ≤ n * 1 := flat_len fun s => by split <;> simp
  have h4 := h.2.1
  have h5 := h.2.2.2
  split <;> split <;> simp <;> omega
/-- a dict of needs -/
def NsAt (H : Hp) (d : Addr) (C : List Pr) (N : Pr → List (List Pr)) : Prop := ∃ nd : Pr → Addr, DmAt H d C (fun q => .ref (nd q)) ∧ ∀ q ∈ C, NdAt H (nd q) (N q)
theorem NsAt.same {H H' : Hp} {d : Addr} {C : List Pr} {N : Pr → List (List Pr)} (h : NsAt H d C N) (s : Same H H') : NsAt H' d C N := let ⟨nd, o, p⟩ := h; ⟨nd, s _ _ o, fun q hq => (p q hq).same s⟩
theorem all_take {α : Type} {L : List α} {p : α → Bool} {i : Nat} {q : α} (e : L[i]? = some q) (h : (L.take i).all p = true) (hq : p q = true) : (L.take (i + 1)).all p = true := by
  rw [take_snoc e, List.all_append, h]
  simp [hq]
section
variable {P : Program} {w : World} {K : PySem.W.Frag} {mg : Str → Option Value} {base : Heap}
def sp__law_needs (K : PySem.W.Frag) : Sp := fun vs H Q _ => ∃ (g : Addr) (m n : Nat) (z : Str) (c : Nat → Nat → Option Int), vs = [.ref g, .str z] ∧ GridAt H g m n c ∧ dim m n ∧ ∀ H' d, Same H H' → H d = none → NsAt H' d (cells m n c) (needsOf m n c z) → Q (.ref d) H'
theorem ok__law_needs (E : TX K mg) : FnOk P w K mg base CX0 3 (a__law_needs K) (fdOf K (a__law_needs K)) P__law_needs (sp__law_needs K) := by
  refine (f__law_needs E).ok sc__law_needs (fun vs H Q E' h => ?_) (fun cdv A outer s H vs Q E' hr h => ?_)
  · obtain ⟨_, _, _, _, _, rfl, _⟩ := h; rfl
  · obtain ⟨g, m, n, z, c, rfl, hg, hd, k⟩ := h
    refine ⟨_, PSs.nox (pss_cons (ps_set (i := 2) sc__law_needs.nd rfl (Or.inl rfl) pe_dnewT)
    (pss_cons (ps_for PassesOwn.never rfl (pi_list (pe_call (ok__law_spots (K := K) E) (hr.mono (by decide)) rfl (g__law_spots (K := K) E) (k__law_spots (K := K) E) (b__law_spots (K := K) E) .nil pass0 (pa_cons (pv 0) pa_nil))) (pg_tup rfl (pgs_cons (pg_name (i := 3) sc__law_needs.nd rfl (Or.inl rfl)) (pgs_cons (pg_name (i := 4) sc__law_needs.nd rfl (Or.inl rfl)) pgs_nil)))
    (pss_one (ps_dput (hu_of hr) (pv 2) (pe_tup (pa_cons (pv 3) (pa_cons (pv 4) pa_nil))) (pe_call (ok__law_needs_of (K := K) E) (hr.mono (by decide)) rfl (g__law_needs_of (K := K) E) (k__law_needs_of (K := K) E) (b__law_needs_of (K := K) E) .nil pass0 (pa_cons (pv 0) (pa_cons (pv 3) (pa_cons (pv 4) (pa_cons (pv 1) pa_nil))))) rfl)))
    (pss_one (ps_ret (pv 2))))), ?_⟩
    have h64 := cells64 c hd
    intro D hD
    have s0 := Same.new hD (o := .dT [])
    refine ⟨_, rfl, g, m, n, c, rfl, hg.same s0, hd, fun H1 l s1 hl ⟨ts, ol, q⟩ => ?_⟩
    have s01 := s0.trans s1
    refine ⟨l, rfl, ⟨_, SqL.of ol⟩, for_list (fun i σ H' => ∃ (v3 v4 : Option V) (nd : Pr → Addr), σ = [some (.ref g), some (.str z), some (.ref D), v3, v4] ∧ (∀ b o, H1 b = some o → b ≠ D → H' b = some o) ∧ Same H H' ∧ DmAt H' D ((cells m n c).take i) (fun q => .ref (nd q)) ∧ ∀ q ∈ (cells m n c).take i, NdAt H' (nd q) (needsOf m n c z q))
      ⟨none, none, fun _ => 0, rfl, fun _ _ e _ => e, s01, s1 _ _ upd_same, fun q hq => by cases hq⟩ (fun i σ H' _ ⟨_, _, _, _, sx, _⟩ => SqL.of (sx _ _ ol (ne_of_none upd_same hl).symm)) ?_ ?_⟩
    · rintro i x σ H' hx ⟨v3, v4, nd, rfl, sx, s, o, hN⟩
      obtain ⟨t', et, rfl⟩ := map_ref_at hx
      obtain ⟨e, er, hr'⟩ := q.of et
      obtain ⟨c1, c2, c3⟩ := mem_cells.mp (List.mem_of_getElem? er)
      have hoD := (s1 _ _ upd_same : H1 D = some (.dT []))
      have hr2 := sx _ _ hr' (ne_of hr' hoD (by intro z; cases z))
      have hnew := nodup_take_not_mem (nodup_cells m n c) er
      refine ⟨t', _, rfl, t2_at hr2, rfl, _, _, rfl, _, _, rfl, rfl, ?_⟩
      refine ⟨_, rfl, _, rfl, _, rfl, _, rfl, g, m, n, e.1, e.2, z, c, rfl, hg.same s, hd, c1, c2, c3, fun H2 p s2 hp hP => ?_⟩
      have o2 := s2 _ _ o
      refine ⟨_, rfl, _, rfl, _, rfl, by show 2 ≤ sizeLine; decide, fun y hy => ?_⟩
      have nDy := ne_of_none o2 hy
      have oy : upd H2 y (.tup [.int (e.1 : Int), .int (e.2 : Int)]) D = some (.dT (dm ((cells m n c).take i) fun q => .ref (nd q))) := (upd_ne nDy).trans o2
      have keep : ∀ {a : Addr} {N : List (List Pr)}, NdAt H2 a N → NdAt (upd (upd H2 y (.tup [.int (e.1 : Int), .int (e.2 : Int)])) D (.dT (putK (dm ((cells m n c).take i) fun q => .ref (nd q)) (ky e) (.ref p)))) a N := fun {a N} ⟨us, ou, pu⟩ => by
        have kk : ∀ b u, H2 b = some u → (∀ kvs, u ≠ .dT kvs) → upd (upd H2 y (.tup [.int (e.1 : Int), .int (e.2 : Int)])) D (.dT (putK (dm ((cells m n c).take i) fun q => .ref (nd q)) (ky e) (.ref p))) b = some u := fun b u eb hu => by
          have hb : b ≠ D := fun z => by rw [z, o2] at eb; exact hu _ (Option.some.inj eb).symm
          rw [upd_ne hb, upd_ne (ne_of_none eb hy)]
          exact eb
        refine ⟨us, kk _ _ ou (by intro _ z; cases z), pu.1, fun k t L q1 q2 => ?_⟩
        obtain ⟨z1, us2, z2, z3⟩ := pu.2 k t L q1 q2
        exact ⟨z1, us2, kk _ _ z2 (by intro _ z; cases z), z3.map fun u i j eu => kk _ _ eu (by intro _ z; cases z)⟩
      refine ⟨D, _, rfl, DPut.t oy (ky_tup (q := e) upd_same) ?_, ?_⟩
      · rw [dm_len, List.length_take]
        exact Nat.lt_of_le_of_lt (Nat.le_trans (Nat.min_le_right _ _) h64) (by decide)
      · refine ⟨_, _, fun r => if r = e then p else nd r, rfl, fun b o eb hb => (upd_ne hb).trans ((upd_ne (ne_of_none (s2 _ _ (sx b o eb hb)) hy)).trans (s2 _ _ (sx b o eb hb))), Same.up (Same.new0 (s.trans s2) hy) hD, ?_, fun q hq => ?_⟩
        · show upd _ _ _ _ = _
          rw [upd_same, take_snoc er, dm_put_any hnew]
          congr 2
          exact dm_congr fun r _ => by
            show (if r = e then V.ref p else V.ref (nd r)) = V.ref (if r = e then p else nd r)
            split <;> rfl
        · show NdAt _ (if q = e then p else nd q) _
          rw [take_snoc er] at hq
          by_cases z : q = e
          · rw [if_pos z, z]
            exact keep hP
          · rw [if_neg z]
            rcases List.mem_append.mp hq with hq | hq
            · exact keep ((hN q hq).same s2)
            · exact absurd (List.mem_singleton.mp hq) z
    · rintro σ H' ⟨v3, v4, nd, rfl, sx, s, o, hN⟩
      rw [List.length_map, q.1, List.take_length] at o hN
      exact ⟨_, rfl, k H' D s hD ⟨nd, o, hN⟩⟩
def sp__law_met (K : PySem.W.Frag) : Sp := fun vs H Q _ => ∃ (a d : Addr) (N : List (List Pr)) (P : List Pr) (f : Pr → V), vs = [.ref a, .ref d] ∧ NdAt H a N ∧ (∀ L ∈ N, L.length ≤ 9) ∧ DmAt H d P f ∧ ∀ H', Same H H' → Q (.bl (metB N P)) H'
theorem ok__law_met (E : TX K mg) : FnOk P w K mg base CX0 1 (a__law_met K) (fdOf K (a__law_met K)) P__law_met (sp__law_met K) := by
  refine (f__law_met E).ok sc__law_met (fun vs H Q E' h => ?_) (fun cdv A outer s H vs Q E' hr h => ?_)
  · obtain ⟨_, _, _, _, _, rfl, _⟩ := h; rfl
  · obtain ⟨a, d, N, Pl, f, rfl, ⟨ts, oa, np⟩, hNl, hP, k⟩ := h
    refine ⟨_, PSs.nox (pss_cons (ps_for PassesOwn.never rfl (pi_list (pv 0)) (pg_name (i := 2) sc__law_met.nd rfl (Or.inl rfl))
    (pss_one (ps_if (pt_cmpR op_eq (pe_callB call_len_seq (by rfl) (fr_len (K := K) E) boot_len (pa_cons (pe_lc (own := [("_law_spot", 3)]) rfl sc__law_met.nd (pi_list (pv 2)) (blkOk_by (own := [("_law_spot", 3)]) (N := N__law_met) (sc := defScope s__law_met) (by decide +kernel)) (fun _ _ _ _ _ => (pg_name (i := 3) sc__law_met.nd rfl (Or.inl rfl))) (fun _ _ _ _ _ => (pts_one (pt_cmp (pc_din (hu_of hr) (pv 3) (pv 1))))) (fun _ _ _ _ _ => (pv 3))) pa_nil)) pe_int (nomark _)) (pss_one (ps_ret pe_bl)) pss_nil)))
    (pss_one (ps_ret pe_bl))), ?_⟩
    refine ⟨_, rfl, a, rfl, ⟨_, SqL.of oa⟩, for_list (fun i σ H' => ∃ (v2 : Option V), σ = [some (.ref a), some (.ref d), v2, none] ∧ Same H H' ∧ ((N.take i).all fun L => L.any fun q => decide (q ∈ Pl)) = true) ⟨none, rfl, Same.refl H, rfl⟩ (fun i σ H' _ ⟨_, _, s, _⟩ => SqL.of (s _ _ oa)) ?_ ?_⟩
    · rintro i x σ H' hx ⟨v2, rfl, s, hall⟩
      obtain ⟨t, et, rfl⟩ := map_ref_at hx
      have hi : i < N.length := by rw [← np.1]; exact (List.getElem?_eq_some_iff.mp et).1
      have eN : N[i]? = some N[i] := List.getElem?_eq_getElem hi
      obtain ⟨L, hL⟩ : ∃ L, N[i] = L := ⟨_, rfl⟩
      rw [hL] at eN
      obtain ⟨_, us, ou, pu⟩ := np.2 i t L et eN
      have hLl := hNl L (List.mem_of_getElem? eN)
      refine ⟨_, rfl, t, rfl, ⟨_, SqL.of (s _ _ ou)⟩, fun D hD => ?_⟩
      refine walk_go (walk_list (xs := us.map V.ref)) (fun j H2 => Same H' H2 ∧ ∃ xs : List V, H2 D = some (.lst xs) ∧ xs.length ≤ j ∧ (xs.length = 0 ↔ ((L.take j).any fun q => decide (q ∈ Pl)) = false)) ⟨Same.new hD, [], upd_same, Nat.le_refl _, by simp⟩ (fun j H2 _ ⟨s2, _⟩ => SqL.of (s2 _ _ (s _ _ ou))) ?_ ?_
      · rintro j x H2 H3 hj ⟨s2, xs, o, hlx, hiff⟩ ⟨rfl, hx⟩
        obtain ⟨u, eu, rfl⟩ := map_ref_at hx
        obtain ⟨q, eq, hq⟩ := pu.of eu
        have hq2 := s2 _ _ (s _ _ hq)
        have hP2 := s2 _ _ (s _ _ hP)
        rw [List.length_map, pu.1] at hj
        have et2 : ((L.take (j + 1)).any fun q => decide (q ∈ Pl)) = (((L.take j).any fun q => decide (q ∈ Pl)) || decide (q ∈ Pl)) := by
          rw [take_snoc eq, List.any_append]; simp
        refine ⟨rfl, _, rfl, _, rfl, d, _, rfl, dm_get hP2 hq2, _, rfl, ?_⟩
        rw [et2]
        by_cases hm : q ∈ Pl
        · rw [if_pos hm, decide_eq_true hm]
          refine ⟨_, rfl, _, o, Nat.lt_of_le_of_lt hlx (Nat.lt_of_lt_of_le hj (Nat.le_trans hLl (by decide))), Same.up s2 hD, _, upd_same, by rw [List.length_append, List.length_singleton]; omega, by rw [List.length_append, Bool.or_true]; simp⟩
        · rw [if_neg hm, decide_eq_false hm]
          exact ⟨s2, xs, o, by omega, by rw [Bool.or_false]; exact hiff⟩
      · rintro H2 ⟨s2, xs, o, hlx, hiff⟩
        rw [List.length_map, pu.1, List.take_length] at hiff
        refine ⟨D, _, rfl, .inl (SqL.of o), rfl, _, rfl, ?_⟩
        have dI : decide (V.int (xs.length : Int) = V.int 0) = decide (xs.length = 0) := by
          by_cases e : xs.length = 0
          · rw [e]; rfl
          · rw [decide_eq_false e]
            exact decide_eq_false fun z => by injection z with z; omega
        rw [dI]
        by_cases e : xs.length = 0
        · rw [decide_eq_true e]
          have hf := hiff.mp e
          refine iteT ?_
          have : metB N Pl = false := by
            unfold metB
            rw [List.all_eq_false]
            exact ⟨L, List.mem_of_getElem? eN, by rw [hf]; simp⟩
          rw [this] at k
          exact k H2 (s.trans s2)
        · rw [decide_eq_false e]
          refine ⟨_, rfl, s.trans s2, all_take eN hall ?_⟩
          cases e2 : (L.any fun q => decide (q ∈ Pl)) with
          | true => rfl
          | false => exact absurd (hiff.mpr e2) e
    · rintro σ H' ⟨v2, rfl, s, hall⟩
      rw [List.length_map, np.1, List.take_length] at hall
      have : metB N Pl = true := hall
      rw [this] at k
      exact k H' s
def sp__law_open (K : PySem.W.Frag) : Sp := fun vs H Q _ => ∃ (d e : Addr) (C P : List Pr) (N : Pr → List (List Pr)) (f : Pr → V), vs = [.ref d, .ref e] ∧ NsAt H d C N ∧ (∀ q ∈ C, ∀ L ∈ N q, L.length ≤ 9) ∧ C.length ≤ 64 ∧ DmAt H e P f ∧ ∀ H' a, Same H H' → H a = none → PairsAt H' a (opens N C P) → Q (.ref a) H'
theorem ok__law_open (E : TX K mg) : FnOk P w K mg base CX0 2 (a__law_open K) (fdOf K (a__law_open K)) P__law_open (sp__law_open K) := by
  refine (f__law_open E).ok sc__law_open (fun vs H Q E' h => ?_) (fun cdv A outer s H vs Q E' hr h => ?_)
  · obtain ⟨_, _, _, _, _, _, rfl, _⟩ := h; rfl
  · obtain ⟨d, e, C, Pl, N, f, rfl, ⟨nd, hdm, hN⟩, hNl, hC, hP, k⟩ := h
    refine ⟨_, PSs.nox (pss_cons (ps_set (i := 2) sc__law_open.nd rfl (Or.inl rfl) (pe_lst pa_nil))
    (pss_cons (ps_for PassesOwn.never rfl (pi_list (pe_callTy (call_list_dT rfl) (by rfl) (fr_list (K := K) E) (by decide +kernel) (pa_cons (pv 0) pa_nil))) (pg_name (i := 3) sc__law_open.nd rfl (Or.inl rfl))
    (pss_one (ps_if (PW.pt (pw_and (pt_cmp (pc_dnotin (hu_of hr) (pv 3) (pv 1))) (pw_and1 (pt_val (pe_call (ok__law_met (K := K) E) (hr.mono (by decide)) rfl (g__law_met (K := K) E) (k__law_met (K := K) E) (b__law_met (K := K) E) .nil pass0 (pa_cons (pe_dget (hu_of hr) (pv 0) (pv 3) (fun _ _ => rfl)) (pa_cons (pv 1) pa_nil))))))) (pss_one (ps_expr (pe_bm PySem.F.plainAttrs_list PySem.F.slot_list_append PySem.F.type_list_append mt_append (pv 2) (pa_cons (pv 3) pa_nil)))) pss_nil)))
    (pss_one (ps_ret (pv 2))))), ?_⟩
    refine ⟨Nat.zero_le _, fun D hD => ?_⟩
    have s0 := Same.new hD (o := .lst [])
    refine ⟨_, rfl, d, _, rfl, .inl (s0 _ _ hdm), fun l bs hl hk => ?_⟩
    have q := dm_keys hk
    have sl := Same.new hl (o := .lst (bs.map V.ref))
    refine ⟨l, rfl, ⟨_, SqL.of upd_same⟩, for_list (fun i σ H' => ∃ (v3 : Option V) (ts : List Addr), σ = [some (.ref d), some (.ref e), some (.ref D), v3] ∧ Same H H' ∧ H' l = some (.lst (bs.map V.ref)) ∧ P2 H' bs C ∧ H' D = some (.lst (ts.map V.ref)) ∧ P2 H' ts (opens N (C.take i) Pl))
      ⟨none, [], rfl, s0.trans sl, upd_same, q.same sl, sl _ _ upd_same, P2.nil _⟩ (fun i σ H' _ ⟨_, _, _, _, o, _⟩ => SqL.of o) ?_ ?_⟩
    · rintro i x σ H' hx ⟨v3, ts, rfl, s, ol, q', o, np⟩
      obtain ⟨t, et, rfl⟩ := map_ref_at hx
      obtain ⟨r, er, hr'⟩ := q'.of et
      have hrC := List.mem_of_getElem? er
      have hi : i < C.length := (List.getElem?_eq_some_iff.mp er).1
      have eop : opens N (C.take (i + 1)) Pl = opens N (C.take i) Pl ++ if (decide (r ∉ Pl) && metB (N r) Pl) = true then [r] else [] := by
        unfold opens
        rw [take_snoc er, List.filter_append]
        congr 1
        by_cases z : (decide (r ∉ Pl) && metB (N r) Pl) = true
        · rw [if_pos z]; exact List.filter_cons_of_pos (p := fun q => decide (q ∉ Pl) && metB (N q) Pl) z
        · rw [if_neg z]; exact List.filter_cons_of_neg (p := fun q => decide (q ∉ Pl) && metB (N q) Pl) z
      rw [eop]
      have hnl : ts.length ≤ i := by
        rw [np.1]
        unfold opens
        exact Nat.le_trans (List.length_filter_le _ _) (by rw [List.length_take]; omega)
      refine ⟨_, rfl, _, rfl, e, _, rfl, dm_get (s _ _ hP) hr', _, rfl, ?_⟩
      by_cases hm : r ∈ Pl
      · rw [if_pos hm]
        refine ⟨_, ts, rfl, s, ol, q', o, ?_⟩
        rw [if_neg (by simp [hm]), List.append_nil]
        exact np
      · rw [if_neg hm]
        refine ⟨_, rfl, _, rfl, d, _, rfl, dm_get_in (s _ _ hdm) hr' hrC, _, rfl, nd r, e, N r, Pl, f, rfl, (hN r hrC).same s, hNl r hrC, s _ _ hP, fun H2 s2 => ⟨_, rfl, ?_⟩⟩
        cases hmet : metB (N r) Pl with
        | false =>
          refine ⟨_, ts, rfl, s.trans s2, s2 _ _ ol, q'.same s2, s2 _ _ o, ?_⟩
          rw [if_neg (by simp), List.append_nil]
          exact np.same s2
        | true =>
          refine ⟨_, rfl, .inl ⟨rfl, _, SqL.of (s2 _ _ o)⟩, _, rfl, D, _, _, rfl, rfl, s2 _ _ o, ?_, ?_⟩
          · rw [List.length_map]
            exact Nat.lt_of_le_of_lt (show ts.length ≤ 64 by omega) (by decide)
          have nDl : l ≠ D := by
            have h1 : D ≠ l := ne_of_none upd_same hl
            exact h1.symm
          rw [if_pos (by simp [hm])]
          refine ⟨_, ts ++ [t], rfl, Same.up (s.trans s2) hD, (upd_ne nDl).trans (s2 _ _ ol), (q'.same s2).map fun a i j ea => (upd_ne (ne_of ea (s2 _ _ o) (by intro z; cases z))).trans ea, by rw [upd_same, map_ref_snoc], P2.snoc ((np.same s2).map fun a i j ea => (upd_ne (ne_of ea (s2 _ _ o) (by intro z; cases z))).trans ea) ((upd_ne (ne_of (s2 _ _ hr') (s2 _ _ o) (by intro z; cases z))).trans (s2 _ _ hr'))⟩
    · rintro σ H' ⟨v3, ts, rfl, s, ol, q', o, np⟩
      rw [List.length_map, q.1, List.take_length] at np
      exact ⟨_, rfl, k H' D s hD ⟨ts, o, np⟩⟩
end
end K78
end
section
set_option Elab.async false
set_option linter.all false
set_option maxRecDepth 100000
set_option maxHeartbeats 4000000
namespace K78
open PySem PySem.Spec PyProof.Rows L2 He
/-! walks of picks -/
theorem nodup_sub_len {α : Type} [DecidableEq α] : ∀ {A C : List α}, A.Nodup → (∀ q ∈ A, q ∈ C) → A.length ≤ C.length
  | [], _, _, _ => Nat.zero_le _
  | a :: A, C, hn, hs => by
    obtain ⟨h1, h2⟩ := List.nodup_cons.mp hn
    have ha : a ∈ C := hs a List.mem_cons_self
    have h3 : ∀ q ∈ A, q ∈ C.erase a := fun q hq => (List.mem_erase_of_ne (show q ≠ a from fun z => h1 (z ▸ hq))).mpr (hs q (List.mem_cons_of_mem _ hq))
    have h4 := nodup_sub_len h2 h3
    have h5 := List.length_erase_of_mem ha
    have h6 : 0 < C.length := List.length_pos_of_mem ha
    show A.length + 1 ≤ C.length
    omega
theorem first_not {α : Type} {p : α → Prop} [DecidablePred p] : ∀ {L : List α}, (∃ q ∈ L, ¬ p q) → ∃ A q B, L = A ++ q :: B ∧ ¬ p q ∧ ∀ a ∈ A, p a
  | [], ⟨_, h, _⟩ => nomatch h
  | a :: L, h => by
    by_cases ha : p a
    · obtain ⟨q, hq, hn⟩ := h
      rcases List.mem_cons.mp hq with e | hq
      · exact absurd (e ▸ ha) hn
      · obtain ⟨A, q', B, e, h1, h2⟩ := first_not ⟨q, hq, hn⟩
        refine ⟨a :: A, q', B, by rw [e]; rfl, h1, fun x hx => ?_⟩
        rcases List.mem_cons.mp hx with e | hx
        · rw [e]; exact ha
        · exact h2 x hx
    · exact ⟨[], a, L, rfl, ha, fun _ h => nomatch h⟩
theorem exists_min {α : Type} (f : α → Int) : ∀ {l : List α}, l ≠ [] → ∃ q ∈ l, ∀ p ∈ l, f q ≤ f p
  | [], h => absurd rfl h
  | [a], _ => ⟨a, List.mem_cons_self, fun p hp => by rw [List.mem_singleton] at hp; rw [hp]; exact Int.le_refl _⟩
  | a :: b :: l, _ => by
    obtain ⟨q, hq, hm⟩ := exists_min f (l := b :: l) (by simp)
    by_cases h : f a ≤ f q
    · refine ⟨a, List.mem_cons_self, fun p hp => ?_⟩
      rcases List.mem_cons.mp hp with e | hp
      · rw [e]; exact Int.le_refl _
      · have := hm p hp; omega
    · refine ⟨q, List.mem_cons_of_mem _ hq, fun p hp => ?_⟩
      rcases List.mem_cons.mp hp with e | hp
      · rw [e]; omega
      · exact hm p hp
def Free (N : Pr → List (List Pr)) (C : List Pr) : Prop := ∀ A : List Pr, A.Nodup → (∀ q ∈ A, q ∈ C) → A.length < C.length → opens N C A ≠ []
structure Walked (N : Pr → List (List Pr)) (C L : List Pr) : Prop where
  perm : L.Perm C
  met : ∀ k q, L[k]? = some q → metB (N q) (L.take k) = true
theorem met_mono {N : List (List Pr)} {A B : List Pr} (h : ∀ q ∈ A, q ∈ B) (hm : metB N A = true) : metB N B = true := by
  unfold metB at hm ⊢
  rw [List.all_eq_true] at hm ⊢
  intro L hL
  obtain ⟨q, hq, e⟩ := List.any_eq_true.mp (hm L hL)
  exact List.any_eq_true.mpr ⟨q, hq, decide_eq_true (h q (of_decide_eq_true e))⟩
theorem mem_opens {N : Pr → List (List Pr)} {C A : List Pr} {q : Pr} : q ∈ opens N C A ↔ q ∈ C ∧ q ∉ A ∧ metB (N q) A = true := by
  unfold opens
  rw [List.mem_filter, Bool.and_eq_true, decide_eq_true_eq]
theorem free_of_walked {N : Pr → List (List Pr)} {C L : List Pr} (hC : C.Nodup) (h : Walked N C L) : Free N C := by
  intro A hn hs hl
  have hex : ∃ q ∈ L, ¬ q ∈ A := by
    refine Classical.byContradiction fun hno => ?_
    have : C.length ≤ A.length := nodup_sub_len hC fun q hq => Classical.byContradiction fun hq2 => hno ⟨q, (List.Perm.mem_iff h.perm).mpr hq, hq2⟩
    omega
  obtain ⟨X, q, Y, e, h1, h2⟩ := first_not hex
  have eq : L[X.length]? = some q := by rw [e, List.getElem?_append_right (Nat.le_refl _), Nat.sub_self]; rfl
  have hm := h.met X.length q eq
  rw [show L.take X.length = X by rw [e]; simp] at hm
  have : q ∈ opens N C A := mem_opens.mpr ⟨(List.Perm.mem_iff h.perm).mp (List.mem_of_getElem? eq), h1, met_mono h2 hm⟩
  intro z
  rw [z] at this
  cases this
theorem mem_flat {α : Type} {n : Nat} {f : Nat → List α} {x : α} : x ∈ (List.range n).flatMap f ↔ ∃ i, i < n ∧ x ∈ f i := by
  rw [List.mem_flatMap]
  constructor
  · rintro ⟨i, hi, hx⟩; exact ⟨i, List.mem_range.mp hi, hx⟩
  · rintro ⟨i, hi, hx⟩; exact ⟨i, List.mem_range.mpr hi, hx⟩
theorem mem_nCross {m n : Nat} {c : Nat → Nat → Option Int} {i j : Nat} {L : List Pr} : L ∈ nCross m n c i j ↔ ∃ r, r < m ∧ ∃ s, s < n ∧ crB c i j r s = true ∧ L = [(i, s), (r, j)] := by
  unfold nCross
  rw [mem_flat]
  constructor
  · rintro ⟨r, hr, h⟩
    obtain ⟨s, hs, h⟩ := mem_flat.mp h
    split at h
    · rename_i e
      exact ⟨r, hr, s, hs, e, List.mem_singleton.mp h⟩
    · cases h
  · rintro ⟨r, hr, s, hs, e, h⟩
    refine ⟨r, hr, mem_flat.mpr ⟨s, hs, ?_⟩⟩
    rw [if_pos e, h]
    exact List.mem_singleton.mpr rfl
theorem mem_nCol {m : Nat} {c : Nat → Nat → Option Int} {i j : Nat} {L : List Pr} : L ∈ nCol m c i j ↔ ∃ r, r < m ∧ lowB (c r j) (vl c (i, j)) = true ∧ L = [(r, j)] := by
  unfold nCol
  rw [mem_flat]
  constructor
  · rintro ⟨r, hr, h⟩
    split at h
    · rename_i e
      exact ⟨r, hr, e, List.mem_singleton.mp h⟩
    · cases h
  · rintro ⟨r, hr, e, h⟩
    refine ⟨r, hr, ?_⟩
    rw [if_pos e, h]
    exact List.mem_singleton.mpr rfl
theorem mem_nRow {n : Nat} {c : Nat → Nat → Option Int} {i j : Nat} {L : List Pr} : L ∈ nRow n c i j ↔ ∃ s, s < n ∧ lowB (c i s) (vl c (i, j)) = true ∧ L = [(i, s)] := by
  unfold nRow
  rw [mem_flat]
  constructor
  · rintro ⟨r, hr, h⟩
    split at h
    · rename_i e
      exact ⟨r, hr, e, List.mem_singleton.mp h⟩
    · cases h
  · rintro ⟨r, hr, e, h⟩
    refine ⟨r, hr, ?_⟩
    rw [if_pos e, h]
    exact List.mem_singleton.mpr rfl
theorem mem_needsOf {m n : Nat} {c : Nat → Nat → Option Int} {z : Str} {q : Pr} {L : List Pr} : L ∈ needsOf m n c z q ↔ L ∈ nCross m n c q.1 q.2 ∨ (cA z = true ∧ L ∈ nCol m c q.1 q.2) ∨ (cB z = true ∧ L ∈ nRow n c q.1 q.2) := by
  unfold needsOf
  rw [List.mem_append, List.mem_append]
  cases cA z <;> cases cB z <;> simp [or_assoc]
theorem low_some {o : Option Int} {v : Int} (h : lowB o v = true) : ∃ q, o = some q ∧ q < v := by
  unfold lowB at h
  cases o with
  | none => cases h
  | some q => exact ⟨q, rfl, of_decide_eq_true h⟩
theorem vl_some {c : Nat → Nat → Option Int} {i j : Nat} {q : Int} (h : c i j = some q) : vl c (i, j) = q := by unfold vl; show (c i j).getD 0 = q; rw [h]; rfl
/-- a grid of one row -/
theorem free_row (n : Nat) (c : Nat → Nat → Option Int) (z : Str) : Free (needsOf 1 n c z) (cells 1 n c) := by
  intro A hn hs hl
  have hne : (cells 1 n c).filter (fun q => decide (q ∉ A)) ≠ [] := by
    intro e
    have : (cells 1 n c).length ≤ A.length := nodup_sub_len (nodup_cells 1 n c) fun q hq => Classical.byContradiction fun hq2 => by
      have : q ∈ (cells 1 n c).filter (fun q => decide (q ∉ A)) := List.mem_filter.mpr ⟨hq, decide_eq_true hq2⟩
      rw [e] at this
      cases this
    omega
  obtain ⟨q, hq, hmin⟩ := exists_min (fun q => vl c q) hne
  obtain ⟨hq1, hq2⟩ := List.mem_filter.mp hq
  obtain ⟨c1, c2, c3⟩ := mem_cells.mp hq1
  have q0 : q.1 = 0 := by omega
  have hm : metB (needsOf 1 n c z q) A = true := by
    unfold metB
    rw [List.all_eq_true]
    intro L hL
    rcases mem_needsOf.mp hL with h | ⟨_, h⟩ | ⟨_, h⟩
    · obtain ⟨r, hr, s, hs, e, _⟩ := mem_nCross.mp h
      unfold crB at e
      rw [if_pos (.inl (by omega))] at e
      cases e
    · obtain ⟨r, hr, e, _⟩ := mem_nCol.mp h
      obtain ⟨v, e1, e2⟩ := low_some e
      have : r = q.1 := by omega
      rw [this] at e1
      rw [show vl c (q.1, q.2) = v from vl_some e1] at e2
      omega
    · obtain ⟨s, hs2, e, eL⟩ := mem_nRow.mp h
      obtain ⟨v, e1, e2⟩ := low_some e
      rw [eL]
      refine List.any_eq_true.mpr ⟨(q.1, s), List.mem_singleton.mpr rfl, decide_eq_true ?_⟩
      refine Classical.byContradiction fun hno => ?_
      have hc : (q.1, s) ∈ cells 1 n c := mem_cells.mpr ⟨c1, hs2, by rw [e1]; rfl⟩
      have := hmin (q.1, s) (List.mem_filter.mpr ⟨hc, decide_eq_true hno⟩)
      have h2 : vl c (q.1, s) = v := vl_some e1
      have h3 : vl c (q.1, q.2) = vl c q := rfl
      rw [h3] at e2
      show False
      have this : vl c q ≤ vl c (q.1, s) := this
      omega
  have : q ∈ opens (needsOf 1 n c z) (cells 1 n c) A := mem_opens.mpr ⟨hq1, of_decide_eq_true hq2, hm⟩
  intro e
  rw [e] at this
  cases this
/-- a walk of picks makes an order without faults -/
theorem nofault_walked {m n : Nat} {c : Nat → Nat → Option Int} {z : Str} {L : List Pr} (h : Walked (needsOf m n c z) (cells m n c) L) : NoFault m n c z L := by
  intro k q e
  have hnd : L.Nodup := (List.Perm.nodup_iff h.perm).mpr (nodup_cells m n c)
  have hm := h.met k q e
  unfold metB at hm
  rw [List.all_eq_true] at hm
  have hmem : ∀ p ∈ L.drop (k + 1), p ∈ cells m n c := fun p hp => (List.Perm.mem_iff h.perm).mp (List.mem_of_mem_drop hp)
  have disj : ∀ p, p ∈ L.take k → p ∈ L.drop (k + 1) → False := fun p h1 h2 => by
    have e2 : L.take k ++ L.drop k = L := List.take_append_drop k L
    rw [← e2] at hnd
    have h3 : p ∈ L.drop k := by
      rw [← List.drop_drop] at h2
      exact List.mem_of_mem_drop (by rw [show k + 1 = 1 + k from Nat.add_comm _ _] at *; exact h2)
    exact (List.nodup_append.mp hnd).2.2 p h1 p h3 rfl
  have hq := mem_cells.mp ((List.Perm.mem_iff h.perm).mp (List.mem_of_getElem? e))
  refine ⟨fun r s hr hs hri hsj h1 h2 => ?_, fun hA r hr hri h1 => ?_, fun hB s hs hsj h1 => ?_⟩
  · cases ed : dearB c q.1 q.2 r s with
    | false => rfl
    | true =>
      exfalso
      obtain ⟨_, _, z1⟩ := mem_cells.mp (hmem _ h1)
      obtain ⟨_, _, z2⟩ := mem_cells.mp (hmem _ h2)
      have hcr : crB c q.1 q.2 r s = true := by
        unfold crB
        rw [if_neg (by omega), if_neg]
        · exact ed
        · rintro (w | w)
          · rw [w] at z2; cases z2
          · rw [w] at z1; cases z1
      have hL := hm [(q.1, s), (r, q.2)] (mem_needsOf.mpr (.inl (mem_nCross.mpr ⟨r, hr, s, hs, hcr, rfl⟩)))
      obtain ⟨p, hp, ep⟩ := List.any_eq_true.mp hL
      have ep := of_decide_eq_true ep
      rcases List.mem_cons.mp hp with hp | hp
      · rw [hp] at ep; exact disj _ ep h2
      · rw [List.mem_singleton] at hp; rw [hp] at ep; exact disj _ ep h1
  · refine Classical.byContradiction fun hlt => ?_
    obtain ⟨_, _, z1⟩ := mem_cells.mp (hmem _ h1)
    have hlow : lowB (c r q.2) (vl c (q.1, q.2)) = true := by
      cases w : c r q.2 with
      | none => rw [w] at z1; cases z1
      | some y =>
        unfold lowB
        refine decide_eq_true ?_
        have := vl_some w
        omega
    have hL := hm [(r, q.2)] (mem_needsOf.mpr (.inr (.inl ⟨hA, mem_nCol.mpr ⟨r, hr, hlow, rfl⟩⟩)))
    obtain ⟨p, hp, ep⟩ := List.any_eq_true.mp hL
    rw [List.mem_singleton] at hp
    rw [hp] at ep
    exact disj _ (of_decide_eq_true ep) h1
  · refine Classical.byContradiction fun hlt => ?_
    obtain ⟨_, _, z1⟩ := mem_cells.mp (hmem _ h1)
    have hlow : lowB (c q.1 s) (vl c (q.1, q.2)) = true := by
      cases w : c q.1 s with
      | none => rw [w] at z1; cases z1
      | some y =>
        unfold lowB
        refine decide_eq_true ?_
        have := vl_some w
        omega
    have hL := hm [(q.1, s)] (mem_needsOf.mpr (.inr (.inr ⟨hB, mem_nRow.mpr ⟨s, hs, hlow, rfl⟩⟩)))
    obtain ⟨p, hp, ep⟩ := List.any_eq_true.mp hL
    rw [List.mem_singleton] at hp
    rw [hp] at ep
    exact disj _ (of_decide_eq_true ep) h1
section
variable {P : Program} {w : World} {K : PySem.W.Frag} {mg : Str → Option Value} {base : Heap}
def sp__law_walk (K : PySem.W.Frag) : Sp := fun vs H Q _ => ∃ (d e : Addr) (C : List Pr) (N : Pr → List (List Pr)) (n : Nat) (f : Nat → Int), vs = [.ref d, .ref e] ∧ NsAt H d C N ∧ (∀ q ∈ C, ∀ L ∈ N q, L.length ≤ 9) ∧ C.length ≤ 64 ∧ C.Nodup ∧ IntsAt H e n f ∧ C.length ≤ n ∧
  (∀ H', Same H H' → ¬ Free N C → Q .non H') ∧ ∀ H' a L, Same H H' → H a = none → PairsAt H' a L → Walked N C L → Q (.ref a) H'
theorem ok__law_walk (E : TX K mg) : FnOk P w K mg base CX0 3 (a__law_walk K) (fdOf K (a__law_walk K)) P__law_walk (sp__law_walk K) := by
  refine (f__law_walk E).ok sc__law_walk (fun vs H Q E' h => ?_) (fun cdv A outer s H vs Q E' hr h => ?_)
  · obtain ⟨_, _, _, _, _, _, rfl, _⟩ := h; rfl
  · obtain ⟨d, e, C, N, n, f, rfl, hN, hNl, hC, hCn, he, hn, k1, k2⟩ := h
    refine ⟨_, PSs.nox (pss_cons (ps_set (i := 2) sc__law_walk.nd rfl (Or.inl rfl) pe_dnewT)
    (pss_cons (ps_for PassesOwn.never rfl (pi_range1 rfl (fr_range (K := K) E) (pa_cons (pe_callB call_len_dT (by rfl) (fr_len (K := K) E) boot_len (pa_cons (pv 0) pa_nil)) pa_nil)) (pg_name (i := 3) sc__law_walk.nd rfl (Or.inl rfl))
    (pss_cons (ps_set (i := 4) sc__law_walk.nd rfl (Or.inl rfl) (pe_call (ok__law_open (K := K) E) (hr.mono (by decide)) rfl (g__law_open (K := K) E) (k__law_open (K := K) E) (b__law_open (K := K) E) .nil pass0 (pa_cons (pv 0) (pa_cons (pv 2) pa_nil))))
    (pss_cons (ps_if (pt_cmpR op_eq (pe_callB call_len_seq (by rfl) (fr_len (K := K) E) boot_len (pa_cons (pv 4) pa_nil)) pe_int (nomark _)) (pss_one (ps_ret pe_non)) pss_nil)
    (pss_one (ps_dput (hu_of hr) (pv 2) (pe_ix ix_list (pv 4) (pe_op op_modN (pe_callTy call_int1 (by rfl) (fr_int (K := K) E) (by decide +kernel) (pa_cons (pe_ix ix_list (pv 1) (pv 3) (fun _ _ => rfl)) pa_nil)) (pe_callB call_len_seq (by rfl) (fr_len (K := K) E) boot_len (pa_cons (pv 4) pa_nil))) (fun _ _ => rfl)) pe_bl rfl)))))
    (pss_one (ps_ret (pe_callTy (call_list_dT rfl) (by rfl) (fr_list (K := K) E) (by decide +kernel) (pa_cons (pv 2) pa_nil)))))), ?_⟩
    intro D hD
    have s0 := Same.new hD (o := .dT [])
    obtain ⟨nd, hdm, _⟩ := id hN
    refine ⟨_, rfl, d, _, rfl, s0 _ _ hdm, ?_⟩
    rw [dm_len]
    refine ⟨_, rfl, by omega, by omega, ?_⟩
    refine for_it (walk_rg (n := C.length)) (fun i σ H' => ∃ (v3 v4 : Option V) (A : List Pr), σ = [some (.ref d), some (.ref e), some (.ref D), v3, v4] ∧ Same H H' ∧ DmAt H' D A (fun _ => .bl true) ∧ A.Nodup ∧ (∀ q ∈ A, q ∈ C) ∧ A.length = i ∧ ∀ k q, A[k]? = some q → metB (N q) (A.take k) = true)
      ⟨none, none, [], rfl, s0, upd_same, List.nodup_nil, (fun _ h => by cases h), rfl, (fun _ _ h => by cases h)⟩ (fun _ _ _ _ _ => trivial) ?_ ?_
    · rintro i x σ H' H'' hi ⟨v3, v4, A, rfl, s, o, hnd, hsub, hlen, hmet⟩ ⟨rfl, rfl⟩
      refine ⟨_, rfl, _, rfl, d, D, C, A, N, _, rfl, hN.same s, hNl, hC, o, fun H2 a s2 ha ⟨ts, oa, q⟩ => ?_⟩
      have s02 := s.trans s2
      refine ⟨_, rfl, a, _, rfl, .inl (SqL.of oa), rfl, _, rfl, ?_⟩
      rw [List.length_map, q.1]
      cases eo : opens N C A with
      | nil =>
        refine k1 H2 s02 fun hF => hF A hnd hsub (by omega) eo
      | cons q0 rest =>
        rw [eo] at q
        have hlq : ((q0 :: rest).length : Int) ≠ 0 := by rw [List.length_cons]; omega
        have hdec : decide (V.int ((q0 :: rest).length : Int) = V.int 0) = false := decide_eq_false fun z => by injection z with z; exact hlq z
        rw [hdec]
        refine iteF ?_
        have hpos : (0 : Int) < ((q0 :: rest).length : Int) := by rw [List.length_cons]; omega
        obtain ⟨j, ej, hj⟩ : ∃ j : Nat, (f i).fmod ((q0 :: rest).length : Int) = (j : Int) ∧ j < (q0 :: rest).length := by
          obtain ⟨h1, h2⟩ := fmod_bd (f i) hpos
          obtain ⟨j, ej⟩ := Int.eq_ofNat_of_zero_le h1
          exact ⟨j, ej, by omega⟩
        have eq : (q0 :: rest)[j]? = some (q0 :: rest)[j] := List.getElem?_eq_getElem hj
        obtain ⟨r, er⟩ : ∃ r, (q0 :: rest)[j] = r := ⟨_, rfl⟩
        rw [er] at eq
        obtain ⟨t, et, ht⟩ := q.at_ eq
        have hro : r ∈ opens N C A := by rw [eo]; exact List.mem_of_getElem? eq
        obtain ⟨hrC, hrA, hrm⟩ := mem_opens.mp hro
        have o2 := s2 _ _ o
        refine ⟨_, rfl, _, rfl, _, rfl, _, rfl, e, _, _, _, rfl, rfl, SqL.of (s02 _ _ he), atR _ (by omega), .inl ⟨_, rfl, _, rfl, a, _, rfl, .inl (SqL.of oa), ?_⟩⟩
        rw [List.length_map, q.1]
        refine ⟨_, _, rfl, rfl, hlq, a, _, _, V.ref t, rfl, rfl, SqL.of oa, ?_, ?_⟩
        · show atI _ ((f i).fmod ((q0 :: rest).length : Int)) = _
          rw [ej]
          exact atI_nat (by rw [List.getElem?_map, et]; rfl)
        refine ⟨D, _, rfl, DPut.t o2 (ky_tup ht) ?_, ?_⟩
        · rw [dm_len]
          exact Nat.lt_of_le_of_lt (show A.length ≤ 64 by omega) (by decide)
        · refine ⟨_, _, A ++ [r], rfl, Same.up s02 hD, ?_, List.nodup_append.mpr ⟨hnd, by simp, fun x hx y hy => by rw [List.mem_singleton] at hy; rw [hy]; intro z; exact hrA (z ▸ hx)⟩, fun p hp => ?_, by rw [List.length_append, hlen]; rfl, fun k p ep => ?_⟩
          · show upd _ _ _ _ = _
            rw [upd_same, dm_put_new (f := fun _ => V.bl true) hrA]
          · rcases List.mem_append.mp hp with hp | hp
            · exact hsub p hp
            · rw [List.mem_singleton] at hp; rw [hp]; exact hrC
          · by_cases hk : k < A.length
            · rw [List.getElem?_append_left hk] at ep
              rw [List.take_append_of_le_length (Nat.le_of_lt hk)]
              exact hmet k p ep
            · have h1 := (List.getElem?_eq_some_iff.mp ep).1
              rw [List.length_append, List.length_singleton] at h1
              have h2 : k = A.length := by omega
              subst h2
              rw [List.getElem?_append_right (Nat.le_refl _), Nat.sub_self] at ep
              cases ep
              rw [List.take_left]
              exact hrm
    · rintro σ H' ⟨v3, v4, A, rfl, s, o, hnd, hsub, hlen, hmet⟩
      refine ⟨_, rfl, D, _, rfl, .inl o, fun p bs hp hk => ?_⟩
      have q := dm_keys hk
      have sp := Same.new hp (o := .lst (bs.map V.ref))
      have hperm : A.Perm C := (List.perm_ext_iff_of_nodup hnd hCn).mpr fun a => ⟨hsub a, fun ha => by
        refine Classical.byContradiction fun hno => ?_
        have : (a :: A).length ≤ C.length := nodup_sub_len (List.nodup_cons.mpr ⟨hno, hnd⟩) fun q hq => by
          rcases List.mem_cons.mp hq with e | hq
          · rw [e]; exact ha
          · exact hsub q hq
        rw [List.length_cons] at this
        omega⟩
      exact k2 _ p A (s.trans sp) (s.free hp) ⟨bs, upd_same, q.same sp⟩ ⟨hperm, hmet⟩
end
end K78
end
section
set_option Elab.async false
set_option linter.all false
set_option maxRecDepth 100000
set_option maxHeartbeats 4000000
namespace K78
open PySem PySem.Spec PyProof.Rows L2 He
theorem need_len {m n : Nat} {c : Nat → Nat → Option Int} {z : Str} {q : Pr} {L : List Pr} (h : L ∈ needsOf m n c z q) : L.length ≤ 9 := by
  rcases mem_needsOf.mp h with h | ⟨_, h⟩ | ⟨_, h⟩
  · obtain ⟨r, _, s, _, _, e⟩ := mem_nCross.mp h
    rw [e]; show 2 ≤ 9; decide
  · obtain ⟨r, _, _, e⟩ := mem_nCol.mp h
    rw [e]; show 1 ≤ 9; decide
  · obtain ⟨r, _, _, e⟩ := mem_nRow.mp h
    rw [e]; show 1 ≤ 9; decide
section
variable {P : Program} {w : World} {K : PySem.W.Frag} {mg : Str → Option Value} {base : Heap}
/-- what the first draws give -/
structure Hd5 (H : Hp) (a : Addr) (h : Nat → Int) : Prop where
  o : IntsAt H a 5 h
  nn : ∀ i, i < 5 → 0 ≤ h i
  h0 : h 0 < 4
  h1 : h 1 < 4
  h2 : h 2 < 8
  h3 : h 3 < 3
  h4 : h 4 < 4
structure Grd (m n : Nat) (c : Nat → Nat → Option Int) (z : Str) : Prop where
  m1 : 1 ≤ m
  m4 : m ≤ 4
  n1 : 1 ≤ n
  n4 : n ≤ 4
  bd : BdG m n c
  fr : Free (needsOf m n c z) (cells m n c)
theorem Grd.dim {m n : Nat} {c : Nat → Nat → Option Int} {z : Str} (h : Grd m n c z) : dim m n := ⟨h.m1, by have := h.m4; omega, h.n1, by have := h.n4; omega⟩
def sp__law_table_of (K : PySem.W.Frag) : Sp := fun vs H Q _ => ∃ (a p : Addr) (z : Str) (h : Nat → Int), vs = [.ref a, .str z, .ref p] ∧ Scr K H a ∧ Hd5 H p h ∧ ∀ H' g m n c, Same H H' → H g = none → GridAt H' g m n c → Grd m n c z → Q (.ref g) H'
theorem ok__law_table_of (E : TX K mg) : FnOk P w K mg base CX0 4 (a__law_table_of K) (fdOf K (a__law_table_of K)) P__law_table_of (sp__law_table_of K) := by
  refine (f__law_table_of E).ok sc__law_table_of (fun vs H Q E' h => ?_) (fun cdv A outer s H vs Q E' hr h => ?_)
  · obtain ⟨_, _, _, _, rfl, _⟩ := h; rfl
  · obtain ⟨a, p, z, hv, rfl, ha, ⟨ho, hnn, q0, q1, q2, q3, q4⟩, k⟩ := h
    refine ⟨_, PSs.nox (pss_cons (ps_set (i := 3) sc__law_table_of.nd rfl (Or.inl rfl) (pe_op op_add pe_int (pe_ix ix_list (pv 2) pe_int (fun _ _ => rfl))))
    (pss_cons (ps_set (i := 4) sc__law_table_of.nd rfl (Or.inl rfl) (pe_op op_add pe_int (pe_ix ix_list (pv 2) pe_int (fun _ _ => rfl))))
    (pss_cons (ps_set (i := 5) sc__law_table_of.nd rfl (Or.inl rfl) (pe_call (ok__law_grid (K := K) E) (hr.mono (by decide)) rfl (g__law_grid (K := K) E) (k__law_grid (K := K) E) (b__law_grid (K := K) E) .nil pass0 (pa_cons (pv 0) (pa_cons pe_int (pa_cons (pv 3) (pa_cons (pv 4) (pa_cons (pe_ix ix_list (pv 2) pe_int (fun _ _ => rfl)) (pa_cons (pe_ix ix_list (pe_lst (pa_cons pe_int (pa_cons pe_int (pa_cons pe_int pa_nil)))) (pe_ix ix_list (pv 2) pe_int (fun _ _ => rfl)) (fun _ _ => rfl)) pa_nil))))))))
    (pss_cons (ps_if (pt_cmpR op_isN (pe_call (ok__law_walk (K := K) E) (hr.mono (by decide)) rfl (g__law_walk (K := K) E) (k__law_walk (K := K) E) (b__law_walk (K := K) E) .nil pass0 (pa_cons (pe_call (ok__law_needs (K := K) E) (hr.mono (by decide)) rfl (g__law_needs (K := K) E) (k__law_needs (K := K) E) (b__law_needs (K := K) E) .nil pass0 (pa_cons (pv 5) (pa_cons (pv 1) pa_nil))) (pa_cons (pe_op op_rep (pe_lst (pa_cons pe_int pa_nil)) pe_int) pa_nil))) pe_non (nomark _)) (pss_one (ps_ret (pe_slice sl_list (pv 5) po_none (po_some pe_int)))) pss_nil)
    (pss_one (ps_ret (pv 5))))))), ?_⟩
    obtain ⟨m0, em⟩ := Int.eq_ofNat_of_zero_le (hnn 0 (by decide))
    obtain ⟨n0, en⟩ := Int.eq_ofNat_of_zero_le (hnn 1 (by decide))
    obtain ⟨st, es⟩ := Int.eq_ofNat_of_zero_le (hnn 2 (by decide))
    obtain ⟨s3, e3⟩ := Int.eq_ofNat_of_zero_le (hnn 3 (by decide))
    have hix : ∀ i : Nat, i < 5 → atI (rg 5 fun i => V.int (hv i)) (i : Int) = some (V.int (hv i)) := fun i hi => atR (fun i => V.int (hv i)) hi
    have ix0 := (hix 0 (by decide)).trans (by rw [em])
    have ix1 := (hix 1 (by decide)).trans (by rw [en])
    have ix2 := (hix 2 (by decide)).trans (by rw [es])
    have ix3 := (hix 3 (by decide)).trans (by rw [e3])
    refine ⟨_, rfl, p, _, _, _, rfl, rfl, SqL.of ho, ix0, _, _, rfl, rfl, ?_⟩
    refine ⟨_, rfl, p, _, _, _, rfl, rfl, SqL.of ho, ix1, _, _, rfl, rfl, ?_⟩
    have cm : (1 : Int) + ((m0 : Nat) : Int) = ((1 + m0 : Nat) : Int) := by omega
    have cn' : (1 : Int) + ((n0 : Nat) : Int) = ((1 + n0 : Nat) : Int) := by omega
    obtain ⟨sh, esh⟩ : ∃ sh : Nat, atI [V.int 0, V.int 6, V.int 3] ((s3 : Nat) : Int) = some (V.int (sh : Int)) := by
      have : s3 = 0 ∨ s3 = 1 ∨ s3 = 2 := by omega
      rcases this with rfl | rfl | rfl
      · exact ⟨0, rfl⟩
      · exact ⟨6, rfl⟩
      · exact ⟨3, rfl⟩
    refine ⟨_, rfl, _, rfl, _, rfl, _, rfl, p, _, _, _, rfl, rfl, SqL.of ho, ix2, ?_⟩
    refine ⟨by show 3 ≤ sizeLine; decide, fun t0 ht0 => ?_⟩
    have s0 := Same.new ht0 (o := .lst [V.int 0, V.int 6, V.int 3])
    refine ⟨_, rfl, p, _, _, _, rfl, rfl, SqL.of (s0 _ _ ho), ix3, t0, _, _, _, rfl, rfl, SqL.of upd_same, esh, ?_⟩
    refine ⟨a, 1, 1 + m0, 1 + n0, st, sh, ?_, ha.same s0, by omega, by omega, by omega, by omega, by omega, fun H1 g c s1 hg0 hg hbd => ?_⟩
    · show [V.ref a, V.int 1, V.int (1 + ((m0 : Nat) : Int)), V.int (1 + ((n0 : Nat) : Int)), V.int ((st : Nat) : Int), V.int (sh : Int)] = _
      rw [cm, cn']; rfl
    have s01 := s0.trans s1
    have hd : dim (1 + m0) (1 + n0) := ⟨by omega, by omega, by omega, by omega⟩
    refine ⟨_, rfl, _, rfl, g, _, _, z, c, rfl, hg, hd, fun H2 d s2 hd0 hN => ?_⟩
    have s02 := s01.trans s2
    refine ⟨Nat.succ_le_of_lt (by decide), fun y hy => ?_⟩
    have sy := Same.new hy (o := .lst [V.int 0])
    refine ⟨y, 64, _, rfl, rfl, upd_same, by decide, by decide, by decide, fun pk hpk => ?_⟩
    rw [show (64 : Int).toNat = 64 from rfl, rep_rg]
    have spk := Same.new0 sy hpk (o := .lst (rg 64 fun _ => V.int 0))
    refine ⟨d, pk, cells (1 + m0) (1 + n0) c, needsOf (1 + m0) (1 + n0) c z, 64, fun _ => 0, rfl, hN.same spk, fun q _ L hL => need_len hL, cells64 c hd, nodup_cells _ _ _, upd_same, cells64 c hd, fun H3 s3 hF => ?_, fun H3 l L s3 hl hpl hW => ?_⟩
    · refine ⟨rfl, _, rfl, ?_⟩
      refine iteT ?_
      have s13 := s2.trans (spk.trans s3)
      obtain ⟨r, hg3⟩ := hg.same s13
      refine ⟨_, rfl, _, rfl, g, _, rfl, SqL.of hg3.o, fun g2 hg2 => ?_⟩
      rw [show cutV (rg (1 + m0) fun i => V.ref (r i)) none (some 1) = rg 1 fun i => V.ref (r i) from cut_rg_to _ 1 (by omega)]
      have s4 := Same.new hg2 (o := .lst (rg 1 fun i => V.ref (r i)))
      refine k _ g2 1 (1 + n0) c ((s01.trans s13).trans s4) ((s01.trans s13).free hg2) ⟨r, ⟨upd_same, fun i hi => s4 _ _ (hg3.r i (by omega))⟩⟩ ⟨by decide, by decide, by omega, by omega, fun i hi j hj q e => hbd i (by omega) j hj q e, free_row _ _ _⟩
    · refine ⟨rfl, _, rfl, ?_⟩
      refine iteF ?_
      refine ⟨_, rfl, k H3 g _ _ c (s02.trans (spk.trans s3)) (s0.free hg0) (hg.same (s2.trans (spk.trans s3))) ⟨by omega, by omega, by omega, by omega, hbd, free_of_walked (nodup_cells _ _ _) hW⟩⟩
end
end K78
end
section
set_option Elab.async false
set_option linter.all false
set_option maxRecDepth 100000
set_option maxHeartbeats 4000000
namespace K78
open PySem PySem.Spec PyProof.Rows L2 He
/-- amounts of the kind, with a serving that shows it -/
structure FitK (m n : Nat) (c : Nat → Nat → Option Int) (z : Str) (a b : Nat → Int) (x : Nat → Nat → Int) : Prop where
  nn : ∀ i j, 0 ≤ x i j
  sup : ∀ i j, (i, j) ∉ cells m n c → x i j = 0
  r : ∀ i, i < m → row n x i ≤ a i
  c : ∀ j, j < n → col m x j ≤ b j
  t : Tight m n (cA z = true) (cB z = true) a b x
  ba : ∀ i, i < m → Bd 1000 (a i)
  bb : ∀ j, j < n → Bd 1000 (b j)
theorem str_ne {a b : Str} (h : V.str a ≠ V.str b) : a ≠ b := fun e => h (by rw [e])
section
variable {P : Program} {w : World} {K : PySem.W.Frag} {mg : Str → Option Value} {base : Heap}
def sp__law_fitting (K : PySem.W.Frag) : Sp := fun vs H Q _ => ∃ (a g : Addr) (k m n : Nat) (z : Str) (c : Nat → Nat → Option Int) (sz : Int), vs = [.ref a, .int (k : Int), .ref g, .str z, .int sz] ∧ Scr K H a ∧ GridAt H g m n c ∧ 1 ≤ m ∧ m ≤ 4 ∧ 1 ≤ n ∧ n ≤ 4 ∧ 0 < sz ∧ Bd 300 sz ∧
  ∀ H' T S W u v x, Same H H' → H T = none → H' T = some (.tup [.ref S, .ref W]) → IntsAt H' S m u → IntsAt H' W n v → FitK m n c z u v x → Q (.ref T) H'
theorem ok__law_fitting (E : TX K mg) : FnOk P w K mg base CX0 3 (a__law_fitting K) (fdOf K (a__law_fitting K)) P__law_fitting (sp__law_fitting K) := by
  refine (f__law_fitting E).ok sc__law_fitting (fun vs H Q E' h => ?_) (fun cdv A outer s H vs Q E' hr h => ?_)
  · obtain ⟨_, _, _, _, _, _, _, _, rfl, _⟩ := h; rfl
  · obtain ⟨a, g, ks, m, n, z, c, sz, rfl, ha, hgr, hm1, hm, hn1, hn, hsz0, hszB, k⟩ := h
    refine ⟨_, PSs.nox (pss_cons (ps_set (i := 5) sc__law_fitting.nd rfl (Or.inr rfl) (pe_callB call_len_seq (by rfl) (fr_len (K := K) E) boot_len (pa_cons (pv 2) pa_nil)))
    (pss_cons (ps_set (i := 6) sc__law_fitting.nd rfl (Or.inl rfl) (pe_callB call_len_seq (by rfl) (fr_len (K := K) E) boot_len (pa_cons (pe_ix ix_list (pv 2) pe_int (fun _ _ => rfl)) pa_nil)))
    (pss_cons (ps_set (i := 7) sc__law_fitting.nd rfl (Or.inl rfl) (pe_call (ok__law_draws (K := K) E) (hr.mono (by decide)) rfl (g__law_draws (K := K) E) (k__law_draws (K := K) E) (b__law_draws (K := K) E) .nil pass0 (pa_cons (pv 0) (pa_cons (pv 1) (pa_cons (pe_op op_cat (pe_lst (pa_cons pe_int pa_nil)) (pe_op op_rep (pe_lst (pa_cons (pv 4) pa_nil)) (pe_op op_add (pe_op op_add (pe_op op_mulW (pv 5) (pv 6)) (pv 5)) (pv 6)))) pa_nil)))))
    (pss_cons (ps_set (i := 8) sc__law_fitting.nd rfl (Or.inr rfl) (pe_op op_rep (pe_lst (pa_cons pe_int pa_nil)) (pv 5)))
    (pss_cons (ps_set (i := 9) sc__law_fitting.nd rfl (Or.inr rfl) (pe_op op_rep (pe_lst (pa_cons pe_int pa_nil)) (pv 6)))
    (pss_cons (ps_for PassesOwn.never rfl (pi_enum rfl (fr_enumerate (K := K) E) (pa_cons (pe_call (ok__law_spots (K := K) E) (hr.mono (by decide)) rfl (g__law_spots (K := K) E) (k__law_spots (K := K) E) (b__law_spots (K := K) E) .nil pass0 (pa_cons (pv 2) pa_nil)) pa_nil)) (pg_tup rfl (pgs_cons (pg_name (i := 10) sc__law_fitting.nd rfl (Or.inl rfl)) (pgs_cons (pg_name (i := 11) sc__law_fitting.nd rfl (Or.inl rfl)) pgs_nil)))
    (pss_cons (ps_augS (pv 8) (pe_ix ix_tup (pv 11) pe_int (fun _ _ => rfl)) get_list (pe_ix ix_list (pv 7) (pe_op op_add pe_int (pv 10)) (fun _ _ => rfl)) ip_add set_listN)
    (pss_one (ps_augS (pv 9) (pe_ix ix_tup (pv 11) pe_int (fun _ _ => rfl)) get_list (pe_ix ix_list (pv 7) (pe_op op_add pe_int (pv 10)) (fun _ _ => rfl)) ip_add set_listN))))
    (pss_cons (ps_set (i := 12) sc__law_fitting.nd rfl (Or.inr rfl) (pe_slice sl_list (pv 7) (po_some (pe_op op_add pe_int (pe_op op_mulW (pv 5) (pv 6)))) po_none))
    (pss_cons (ps_if (PW.pt (pw_or (pt_cmpR op_eq (pv 3) pe_str (nomark _)) (pw_or1 (PW.pt (pw_and (pt_cmpR op_eq (pv 3) pe_str (nomark _)) (pw_and1 (pt_cmpR op_eq (pe_ix ix_list (pv 7) pe_int (fun _ _ => rfl)) pe_int (nomark _)))))))) (pss_one (ps_set (i := 8) sc__law_fitting.nd rfl (Or.inr rfl) (pe_lc (own := [("_law_k", 10)]) rfl sc__law_fitting.nd (pi_range1 rfl (fr_range (K := K) E) (pa_cons (pv 5) pa_nil)) (blkOk_by (own := [("_law_k", 10)]) (N := N__law_fitting) (sc := defScope s__law_fitting) (by decide +kernel)) (fun _ _ _ _ _ => (pg_name (i := 10) sc__law_fitting.nd rfl (Or.inl rfl))) (fun _ _ _ _ _ => pts_nil) (fun _ _ _ _ _ => (pe_op op_add (pe_ix (ix_listK (K := K) rfl) (pv 8) (pv 10) (fun _ _ => rfl)) (pe_ix (ix_listK (K := K) rfl) (pv 12) (pv 10) (fun _ _ => rfl))))))) pss_nil)
    (pss_cons (ps_if (PW.pt (pw_or (pt_cmpR op_eq (pv 3) pe_str (nomark _)) (pw_or1 (PW.pt (pw_and (pt_cmpR op_eq (pv 3) pe_str (nomark _)) (pw_and1 (pt_cmpR op_eq (pe_ix ix_list (pv 7) pe_int (fun _ _ => rfl)) pe_int (nomark _)))))))) (pss_one (ps_set (i := 9) sc__law_fitting.nd rfl (Or.inr rfl) (pe_lc (own := [("_law_k", 10)]) rfl sc__law_fitting.nd (pi_range1 rfl (fr_range (K := K) E) (pa_cons (pv 6) pa_nil)) (blkOk_by (own := [("_law_k", 10)]) (N := N__law_fitting) (sc := defScope s__law_fitting) (by decide +kernel)) (fun _ _ _ _ _ => (pg_name (i := 10) sc__law_fitting.nd rfl (Or.inl rfl))) (fun _ _ _ _ _ => pts_nil) (fun _ _ _ _ _ => (pe_op op_add (pe_ix (ix_listK (K := K) rfl) (pv 9) (pv 10) (fun _ _ => rfl)) (pe_ix (ix_listK (K := K) rfl) (pv 12) (pe_op op_add (pv 5) (pv 10)) (fun _ _ => rfl))))))) pss_nil)
    (pss_one (ps_ret (pe_tup (pa_cons (pv 8) (pa_cons (pv 9) pa_nil)))))))))))))), ?_⟩
    obtain ⟨r, hg⟩ := id hgr
    have ix0 : atI (rg m fun i => V.ref (r i)) 0 = some (V.ref (r 0)) := atR (i := 0) _ hm1
    refine ⟨_, rfl, g, _, rfl, .inl (SqL.of hg.o), ?_⟩
    rw [rg_len]
    refine ⟨_, rfl, g, _, _, _, rfl, rfl, SqL.of hg.o, ix0, _, _, rfl, .inl (SqL.of (hg.r 0 hm1)), ?_⟩
    rw [rg_len]
    have hmul : CMulW (m : Int) (n : Int) := wm (by omega) (by omega)
    obtain ⟨N, hN⟩ : ∃ N : Nat, m * n = N := ⟨_, rfl⟩
    have hN16 : N ≤ 16 := by rw [← hN]; exact Nat.mul_le_mul hm hn
    have cN : (m : Int) * (n : Int) = (N : Int) := by rw [← hN]; exact (Int.natCast_mul m n).symm
    refine ⟨_, rfl, _, rfl, Nat.succ_le_of_lt (by decide), fun p1 hp1 => ?_⟩
    have sp1 := Same.new hp1 (o := .lst [V.int 3])
    refine ⟨_, rfl, Nat.succ_le_of_lt (by decide), fun p2 hp2 => ?_⟩
    have sp2 := Same.new0 sp1 hp2 (o := .lst [V.int sz])
    have hcnt : ((m : Int) * (n : Int) + (m : Int) + (n : Int)) = ((N + m + n : Nat) : Int) := by rw [cN]; omega
    refine ⟨_, rfl, _, rfl, _, _, rfl, rfl, hmul, _, rfl, _, _, rfl, rfl, _, rfl, _, _, rfl, rfl, p2, _, _, rfl, rfl, upd_same, ?_⟩
    rw [hcnt]
    refine ⟨by omega, by omega, ?_, fun p3 hp3 => ?_⟩
    · rw [Int.toNat_natCast]
      exact Nat.le_trans (show 1 * (N + m + n) ≤ 24 by omega) (by decide)
    rw [Int.toNat_natCast, rep_rg]
    have sp3 := Same.new0 sp2 hp3 (o := .lst (rg (N + m + n) fun _ => V.int sz))
    have n12 : p1 ≠ p2 := ne_of_none upd_same hp2
    have n13 : p1 ≠ p3 := ne_of_none ((upd_ne n12).trans upd_same) hp3
    refine ⟨p1, p3, _, _, rfl, rfl, (upd_ne n13).trans ((upd_ne n12).trans upd_same), upd_same, ?_, fun p4 hp4 => ?_⟩
    · rw [rg_len]
      exact Nat.le_trans (show 1 + (N + m + n) ≤ 25 by omega) (by decide)
    have e4 : [V.int 3] ++ (rg (N + m + n) fun _ => V.int sz) = rg (1 + (N + m + n)) fun i => V.int (if i < 1 then 3 else sz) := by
      rw [show [V.int 3] = rg 1 fun _ => V.int 3 from rfl, rg_app]
      exact rg_congr fun i _ => by split <;> rfl
    rw [e4]
    have sp4 := Same.new0 sp3 hp4 (o := .lst (rg (1 + (N + m + n)) fun i => V.int (if i < 1 then 3 else sz)))
    refine ⟨a, p4, ks, 1 + (N + m + n), fun i => if i < 1 then 3 else sz, rfl, ha.same sp4, upd_same, by omega, fun i _ => ?_, fun H1 l d s1 hl hd hdb => ?_⟩
    · show 0 < (if i < 1 then 3 else sz) ∧ (if i < 1 then 3 else sz).natAbs < 2 ^ 1000
      split
      · exact ⟨by decide, Nat.lt_of_lt_of_le (show (3 : Int).natAbs < 2 ^ 2 by decide) (pow_mono (by decide))⟩
      · exact ⟨hsz0, Nat.lt_of_lt_of_le hszB (pow_mono (by decide))⟩
    have s01 := sp4.trans s1
    have dB : ∀ i, 1 ≤ i → i < 1 + (N + m + n) → 0 ≤ d i ∧ d i < sz := fun i h1 h2 => by
      have : 0 ≤ d i ∧ d i < (if i < 1 then 3 else sz) := hdb i h2
      rw [if_neg (by omega)] at this
      exact this
    have d0 : 0 ≤ d 0 ∧ d 0 < 3 := by
      have : 0 ≤ d 0 ∧ d 0 < (if 0 < 1 then 3 else sz) := hdb 0 (by omega)
      rw [if_pos (by decide)] at this
      exact this
    -- [0] * m, [0] * n
    refine ⟨Nat.succ_le_of_lt (by decide), fun p5 hp5 => ?_⟩
    have sp5 := Same.new hp5 (o := .lst [V.int 0])
    refine ⟨_, rfl, p5, _, _, rfl, rfl, upd_same, by omega, by omega, ?_, fun S0 hS => ?_⟩
    · rw [Int.toNat_natCast]
      exact Nat.le_trans (show 1 * m ≤ 4 by omega) (by decide)
    rw [Int.toNat_natCast, rep_rg]
    have sS := Same.new0 sp5 hS (o := .lst (rg m fun _ => V.int 0))
    refine ⟨Nat.succ_le_of_lt (by decide), fun p6 hp6 => ?_⟩
    have sp6 := Same.new0 sS hp6 (o := .lst [V.int 0])
    refine ⟨_, rfl, p6, _, _, rfl, rfl, upd_same, by omega, by omega, ?_, fun W0 hW => ?_⟩
    · rw [Int.toNat_natCast]
      exact Nat.le_trans (show 1 * n ≤ 4 by omega) (by decide)
    rw [Int.toNat_natCast, rep_rg]
    have sW := Same.new0 sp6 hW (o := .lst (rg n fun _ => V.int 0))
    have nS6 : S0 ≠ p6 := ne_of_none upd_same hp6
    have nSW : S0 ≠ W0 := ne_of_none ((upd_ne nS6).trans upd_same) hW
    have oS : upd (upd (upd (upd H1 p5 (.lst [V.int 0])) S0 (.lst (rg m fun _ => V.int 0))) p6 (.lst [V.int 0])) W0 (.lst (rg n fun _ => V.int 0)) S0 = some (.lst (rg m fun _ => V.int 0)) := (upd_ne nSW).trans ((upd_ne nS6).trans upd_same)
    have oW : upd (upd (upd (upd H1 p5 (.lst [V.int 0])) S0 (.lst (rg m fun _ => V.int 0))) p6 (.lst [V.int 0])) W0 (.lst (rg n fun _ => V.int 0)) W0 = some (.lst (rg n fun _ => V.int 0)) := upd_same
    have hS1 : H1 S0 = none := sp5.free hS
    have hW1 : H1 W0 = none := sp6.free hW
    obtain ⟨H2, eH2⟩ : ∃ H2, upd (upd (upd (upd H1 p5 (.lst [V.int 0])) S0 (.lst (rg m fun _ => V.int 0))) p6 (.lst [V.int 0])) W0 (.lst (rg n fun _ => V.int 0)) = H2 := ⟨_, rfl⟩
    rw [eH2] at sW oS oW ⊢
    have s02 := s01.trans sW
    refine ⟨_, rfl, g, m, n, c, rfl, hgr.same s02, ⟨hm1, by omega, hn1, by omega⟩, fun H3 lc s3 hlc ⟨ts, olc, pts⟩ => ?_⟩
    refine ⟨lc, _, rfl, SqL.of olc, ?_⟩
    have s13 := sW.trans s3
    have hcl : (cells m n c).length ≤ N := by rw [← hN]; exact len_cells m n c
    have lcS : lc ≠ S0 := (ne_of_none oS hlc).symm
    have lcW : lc ≠ W0 := (ne_of_none oW hlc).symm
    refine for_it (walk_enum (xs := ts.map V.ref)) (fun i σ H' => ∃ (v10 v11 : Option V) (x : Nat → Nat → Int), σ = [some (.ref a), some (.int (ks : Int)), some (.ref g), some (.str z), some (.int sz), some (.int (m : Int)), some (.int (n : Int)), some (.ref l), some (.ref S0), some (.ref W0), v10, v11, none] ∧ Same H1 H' ∧ H' lc = some (.lst (ts.map V.ref)) ∧ P2 H' ts (cells m n c) ∧
        IntsAt H' S0 m (row n x) ∧ IntsAt H' W0 n (col m x) ∧ (∀ i j, 0 ≤ x i j) ∧ (∀ i j, (i, j) ∉ cells m n c → x i j = 0) ∧ (∀ i', i' < m → row n x i' ≤ i * sz) ∧ ∀ j, j < n → col m x j ≤ i * sz)
      ⟨none, none, fun _ _ => 0, rfl, s13, olc, pts, ?_, ?_, fun _ _ => Int.le_refl _, fun _ _ _ => rfl, fun i _ => by rw [row_zero]; omega, fun j _ => by rw [col_zero]; omega⟩ (fun i σ H' _ ⟨_, _, _, _, _, o, _⟩ => SqL.of o) ?_ ?_
    · show _ = _
      rw [s3 _ _ oS]
      congr 2
      exact rg_congr fun i _ => by rw [row_zero]
    · show _ = _
      rw [s3 _ _ oW]
      congr 2
      exact rg_congr fun i _ => by rw [col_zero]
    · rintro i xv σ H' H'' hi ⟨v10, v11, x, rfl, s, olc', pts', iS, iW, hnn, hsup, hrb, hcb⟩ ⟨T, y1, y2, rfl, hT, rfl, e1, e2⟩
      cases e1
      obtain ⟨t, et, rfl⟩ := map_ref_at e2
      obtain ⟨q, eq, hq⟩ := pts'.of et
      have hqc := List.mem_of_getElem? eq
      obtain ⟨c1, c2, c3⟩ := mem_cells.mp hqc
      have hil : i < (cells m n c).length := (List.getElem?_eq_some_iff.mp eq).1
      have sT := Same.new hT (o := .tup [.int (i : Int), .ref t])
      refine ⟨_, _, rfl, .inl (.inl upd_same), rfl, _, _, rfl, _, _, rfl, rfl, ?_⟩
      have hq2 := sT _ _ hq
      have hd2 := sT _ _ (s _ _ hd)
      have iS2 := sT _ _ iS
      have iW2 := sT _ _ iW
      have cd : (1 : Int) + (i : Int) = ((1 + i : Nat) : Int) := by omega
      have edd : atI (rg (1 + (N + m + n)) fun i => V.int (d i)) (1 + (i : Int)) = some (V.int (d (1 + i))) := by rw [cd]; exact atR (fun i => V.int (d i)) (by omega)
      refine ⟨_, rfl, _, rfl, t, _, _, _, rfl, rfl, t2_at hq2, rfl, S0, _, q.1, _, rfl, rfl, SqL.of iS2, rg_at _ c1, _, rfl, _, rfl, _, _, rfl, rfl, l, _, _, _, rfl, rfl, SqL.of hd2, edd, _, _, rfl, rfl, S0, _, q.1, rfl, rfl, iS2, by rw [rg_len]; exact c1, ?_⟩
      rw [rg_set]
      have nlS : l ≠ S0 := ne_of_none hd hS1
      have nlW : l ≠ W0 := ne_of_none hd hW1
      refine ⟨_, rfl, _, rfl, t, _, _, _, rfl, rfl, t2_at ((upd_ne (ne_of hq2 iS2 (by intro z; cases z))).trans hq2), rfl, W0, _, q.2, _, rfl, rfl, SqL.of ((upd_ne nSW.symm).trans iW2), rg_at _ c2, _, rfl, _, rfl, _, _, rfl, rfl, l, _, _, _, rfl, rfl, SqL.of ((upd_ne nlS).trans hd2), edd, _, _, rfl, rfl, W0, _, q.2, rfl, rfl, (upd_ne nSW.symm).trans iW2, by rw [rg_len]; exact c2, ?_⟩
      rw [rg_set]
      obtain ⟨v0, v1⟩ := dB (1 + i) (by omega) (by omega)
      have tk : ∀ {u : Addr} {xs : List V}, H' u = some (.tup xs) → ∀ A B, upd (upd (upd H' T (.tup [.int (i : Int), .ref t])) S0 (.lst A)) W0 (.lst B) u = some (.tup xs) := fun e A B => by
        rw [upd_ne (ne_of e iW (by intro z; cases z)), upd_ne (ne_of e iS (by intro z; cases z)), upd_ne (ne_of_none e hT)]
        exact e
      refine ⟨_, _, bump x q.1 q.2 (d (1 + i)), rfl, Same.up (Same.up (s.trans sT) hS1) hW1, ?_, pts'.map fun u i j e => tk e _ _, ?_, ?_, fun i' j' => ?_, fun i' j' h => ?_, fun i' hi' => ?_, fun j' hj' => ?_⟩
      · rw [upd_ne lcW, upd_ne lcS, upd_ne (ne_of_none olc' hT)]
        exact olc'
      · show upd _ _ _ _ = _
        rw [upd_ne nSW, upd_same]
        congr 2
        refine rg_congr fun i' _ => ?_
        rw [row_bump _ _ _ _ c2]
        by_cases e : i' = q.1
        · rw [if_pos e, if_pos e, e]
        · rw [if_neg e, if_neg e, Int.add_zero]
      · show upd _ _ _ _ = _
        rw [upd_same]
        congr 2
        refine rg_congr fun i' _ => ?_
        rw [col_bump _ _ _ _ c1]
        by_cases e : i' = q.2
        · rw [if_pos e, if_pos e, e]
        · rw [if_neg e, if_neg e, Int.add_zero]
      · unfold bump
        have := hnn i' j'
        split <;> omega
      · unfold bump
        rw [if_neg fun z => h (by rw [z.1, z.2]; exact hqc)]
        exact hsup i' j' h
      · rw [row_bump _ _ _ _ c2]
        have := hrb i' hi'
        have e : ((i + 1 : Nat) : Int) * sz = (i : Int) * sz + sz := by rw [show ((i + 1 : Nat) : Int) = (i : Int) + 1 by omega, Int.add_mul, Int.one_mul]
        rw [e]
        split <;> omega
      · rw [col_bump _ _ _ _ c1]
        have := hcb j' hj'
        have e : ((i + 1 : Nat) : Int) * sz = (i : Int) * sz + sz := by rw [show ((i + 1 : Nat) : Int) = (i : Int) + 1 by omega, Int.add_mul, Int.one_mul]
        rw [e]
        split <;> omega
    · rintro σ H4 ⟨v10, v11, x, rfl, s, _, _, iS, iW, hnn, hsup, hrb, hcb⟩
      rw [List.length_map, pts.1] at hrb hcb
      have s04 := s01.trans s
      have hd4 := s _ _ hd
      have ecut : cutV (rg (1 + (N + m + n)) fun i => V.int (d i)) (some (1 + (m : Int) * (n : Int))) none = rg (m + n) fun i => V.int (d (1 + N + i)) := by
        rw [cN, show (1 : Int) + (N : Int) = ((1 + N : Nat) : Int) by omega, cut_rg_end _ _ (by omega), show 1 + (N + m + n) - (1 + N) = m + n by omega]
      refine ⟨_, rfl, _, rfl, _, rfl, _, _, rfl, rfl, hmul, _, _, rfl, rfl, _, rfl, l, _, rfl, SqL.of hd4, fun R hR => ?_⟩
      rw [show cutV (rg (1 + (N + m + n)) fun i => V.int (d i)) (some ((fun i j => (i + j : Int)) 1 ((fun i j => (i * j : Int)) (m : Int) (n : Int)))) none = rg (m + n) fun i => V.int (d (1 + N + i)) from ecut]
      have sR := Same.new hR (o := .lst (rg (m + n) fun i => V.int (d (1 + N + i))))
      have oR : upd H4 R (.lst (rg (m + n) fun i => V.int (d (1 + N + i)))) R = some (.lst (rg (m + n) fun i => V.int (d (1 + N + i)))) := upd_same
      obtain ⟨H5, eH5⟩ : ∃ H5, upd H4 R (.lst (rg (m + n) fun i => V.int (d (1 + N + i)))) = H5 := ⟨_, rfl⟩
      rw [eH5] at sR oR
      rw [show upd H4 R (.lst (rg (m + n) fun i => V.int (d (1 + N + i)))) = H5 from eH5]
      have s05 := s04.trans sR
      have dec0 : ∀ q : Int, decide (V.int (d 0) = V.int q) = decide (d 0 = q) := fun q => by
        by_cases e : d 0 = q
        · rw [e, decide_eq_true rfl, decide_eq_true rfl]
        · rw [decide_eq_false e]
          exact decide_eq_false fun z => by injection z with z; exact e z
      have ixd0 : atI (rg (1 + (N + m + n)) fun i => V.int (d i)) 0 = some (V.int (d 0)) := atR (i := 0) (fun i => V.int (d i)) (by omega)
      have dR : ∀ i, i < m + n → 0 ≤ d (1 + N + i) ∧ d (1 + N + i) < sz := fun i hi => dB _ (by omega) (by omega)
      obtain ⟨b1, eb1⟩ : ∃ b1 : Bool, (decide (V.str z = V.str "stock") || (decide (V.str z = V.str "any") && decide (d 0 = 0))) = b1 := ⟨_, rfl⟩
      obtain ⟨b2, eb2⟩ : ∃ b2 : Bool, (decide (V.str z = V.str "wish") || (decide (V.str z = V.str "any") && decide (d 0 = 1))) = b2 := ⟨_, rfl⟩
      dsimp only
      refine tifs_pp b1 (fun Kk hK => ?_) (fun σ H' => ∃ (S1 : Addr) (u : Nat → Int), σ = [some (.ref a), some (.int (ks : Int)), some (.ref g), some (.str z), some (.int sz), some (.int (m : Int)), some (.int (n : Int)), some (.ref l), some (.ref S1), some (.ref W0), v10, v11, some (.ref R)] ∧ Same H5 H' ∧ IntsAt H' S1 m u ∧ (∀ i, i < m → row n x i ≤ u i ∧ u i ≤ row n x i + sz) ∧ (b1 = false → ∀ i, i < m → u i = row n x i))
        (fun hb rest => ?_) (fun hb rest => rest _ _ ⟨S0, row n x, rfl, Same.refl _, sR _ _ iS, fun i _ => ⟨Int.le_refl _, by omega⟩, fun _ i _ => rfl⟩) ?_
      · rw [← eb1] at hK
        refine ⟨_, rfl, rfl, _, rfl, ?_⟩
        by_cases e1 : V.str z = V.str "stock"
        · rw [decide_eq_true e1] at hK ⊢
          exact hK
        · rw [decide_eq_false e1] at hK ⊢
          refine ⟨_, rfl, rfl, _, rfl, ?_⟩
          by_cases e2 : V.str z = V.str "any"
          · rw [decide_eq_true e2] at hK ⊢
            refine ⟨_, rfl, l, _, _, _, rfl, rfl, SqL.of (sR _ _ hd4), ixd0, rfl, _, rfl, ?_⟩
            rw [dec0]
            exact hK
          · rw [decide_eq_false e2] at hK ⊢
            exact hK
      · refine ⟨_, rfl, (m : Int), rfl, by omega, by omega, fun D hD => ?_⟩
        refine walk_go (walk_rg (n := m)) (fun i H' => Same H5 H' ∧ IntsAt H' D i (fun i => row n x i + d (1 + N + i))) ⟨Same.new hD, upd_same⟩ (fun _ _ _ _ => trivial) ?_ ?_
        · rintro i xv H' H'' hi ⟨s6, o6⟩ ⟨rfl, rfl⟩
          refine ⟨rfl, _, rfl, _, rfl, S0, _, _, _, rfl, rfl, SqL.of (s6 _ _ (sR _ _ iS)), atR _ hi, _, rfl, _, rfl, R, _, _, _, rfl, rfl, SqL.of (s6 _ _ oR), atR (fun i => V.int (d (1 + N + i))) (by omega), _, _, rfl, rfl, _, o6, by rw [rg_len]; exact Nat.lt_of_lt_of_le hi (Nat.le_trans (show m ≤ 4 by omega) (by decide)), Same.up s6 hD, ?_⟩
          show upd _ _ _ _ = _
          rw [upd_same, rg_snoc i fun i => V.int (row n x i + d (1 + N + i))]
        · rintro H6 ⟨s6, o6⟩
          exact rest _ _ ⟨D, _, rfl, s6, o6, fun i hi => by have := dR i (by omega); omega, fun hf => by rw [hb] at hf; cases hf⟩
      · rintro σ H6 ⟨S1, u, rfl, s6, iS1, hu, hu2⟩
        refine tifs_pp b2 (fun Kk hK => ?_) (fun σ H' => ∃ (W1 : Addr) (v : Nat → Int), σ = [some (.ref a), some (.int (ks : Int)), some (.ref g), some (.str z), some (.int sz), some (.int (m : Int)), some (.int (n : Int)), some (.ref l), some (.ref S1), some (.ref W1), v10, v11, some (.ref R)] ∧ Same H6 H' ∧ IntsAt H' W1 n v ∧ (∀ i, i < n → col m x i ≤ v i ∧ v i ≤ col m x i + sz) ∧ (b2 = false → ∀ i, i < n → v i = col m x i))
          (fun hb rest => ?_) (fun hb rest => rest _ _ ⟨W0, col m x, rfl, Same.refl _, s6 _ _ (sR _ _ iW), fun i _ => ⟨Int.le_refl _, by omega⟩, fun _ i _ => rfl⟩) ?_
        · rw [← eb2] at hK
          refine ⟨_, rfl, rfl, _, rfl, ?_⟩
          by_cases e1 : V.str z = V.str "wish"
          · rw [decide_eq_true e1] at hK ⊢
            exact hK
          · rw [decide_eq_false e1] at hK ⊢
            refine ⟨_, rfl, rfl, _, rfl, ?_⟩
            by_cases e2 : V.str z = V.str "any"
            · rw [decide_eq_true e2] at hK ⊢
              refine ⟨_, rfl, l, _, _, _, rfl, rfl, SqL.of (s6 _ _ (sR _ _ hd4)), ixd0, rfl, _, rfl, ?_⟩
              rw [dec0]
              exact hK
            · rw [decide_eq_false e2] at hK ⊢
              exact hK
        · refine ⟨_, rfl, (n : Int), rfl, by omega, by omega, fun D hD => ?_⟩
          refine walk_go (walk_rg (n := n)) (fun i H' => Same H6 H' ∧ IntsAt H' D i (fun i => col m x i + d (1 + N + (m + i)))) ⟨Same.new hD, upd_same⟩ (fun _ _ _ _ => trivial) ?_ ?_
          · rintro i xv H' H'' hi ⟨s7, o7⟩ ⟨rfl, rfl⟩
            have emi : atI (rg (m + n) fun i => V.int (d (1 + N + i))) ((m : Int) + (i : Int)) = some (V.int (d (1 + N + (m + i)))) := by
              rw [show (m : Int) + (i : Int) = ((m + i : Nat) : Int) by omega]
              exact atR (fun i => V.int (d (1 + N + i))) (by omega)
            refine ⟨rfl, _, rfl, _, rfl, W0, _, _, _, rfl, rfl, SqL.of (s7 _ _ (s6 _ _ (sR _ _ iW))), atR _ hi, _, rfl, _, rfl, _, rfl, _, _, rfl, rfl, R, _, _, _, rfl, rfl, SqL.of (s7 _ _ (s6 _ _ oR)), emi, _, _, rfl, rfl, _, o7, by rw [rg_len]; exact Nat.lt_of_lt_of_le hi (Nat.le_trans (show n ≤ 4 by omega) (by decide)), Same.up s7 hD, ?_⟩
            show upd _ _ _ _ = _
            rw [upd_same, rg_snoc i fun i => V.int (col m x i + d (1 + N + (m + i)))]
          · rintro H7 ⟨s7, o7⟩
            exact rest _ _ ⟨D, _, rfl, s7, o7, fun i hi => by have := dR (m + i) (by omega); omega, fun hf => by rw [hb] at hf; cases hf⟩
        · rintro σ H7 ⟨W1, v, rfl, s7, iW1, hv, hv2⟩
          refine ⟨_, rfl, _, rfl, by show 2 ≤ sizeLine; decide, fun T hT => ?_⟩
          have sT := Same.new hT (o := .tup [.ref S1, .ref W1])
          have s07 := s05.trans (s6.trans s7)
          have hcl16 : ((cells m n c).length : Int) * sz ≤ 16 * sz := Int.mul_le_mul_of_nonneg_right (by omega) (by omega)
          have hbig : ∀ y : Int, 0 ≤ y → y ≤ 17 * sz → Bd 1000 y := fun y h1 h2 => by
            show y.natAbs < 2 ^ 1000
            have hs : sz.natAbs < 2 ^ 300 := hszB
            have h5 : (2 : Nat) ^ 305 ≤ 2 ^ 1000 := pow_mono (by decide)
            have h6 : (2 : Nat) ^ 305 = 2 ^ 300 * 32 := by rw [show 305 = 300 + 5 from rfl, Nat.pow_add]
            rw [h6] at h5
            clear hszB
            generalize (2 : Nat) ^ 1000 = Z at *
            generalize (2 : Nat) ^ 300 = Y at *
            omega
          have sA : b1 = true → cA z = true := fun hb => by
            rw [← eb1] at hb
            unfold cA
            rw [Bool.or_eq_true] at hb ⊢
            rcases hb with hb | hb
            · exact .inl hb
            · exact .inr (Bool.and_eq_true_iff.mp hb).1
          have sB : b2 = true → cB z = true := fun hb => by
            rw [← eb2] at hb
            unfold cB
            rw [Bool.or_eq_true] at hb ⊢
            rcases hb with hb | hb
            · exact .inl hb
            · exact .inr (Bool.and_eq_true_iff.mp hb).1
          have s12 : b1 = true → b2 = false := fun hb => by
            rw [← eb1] at hb
            rw [← eb2]
            have e1 : V.str "stock" ≠ V.str "wish" := by decide +kernel
            have e2 : V.str "stock" ≠ V.str "any" := by decide +kernel
            have e3 : V.str "any" ≠ V.str "wish" := by decide +kernel
            rw [Bool.or_eq_true, Bool.and_eq_true, decide_eq_true_eq, decide_eq_true_eq, decide_eq_true_eq] at hb
            rcases hb with hb | ⟨hb, hb2⟩
            · rw [hb, decide_eq_false e1, decide_eq_false e2]; rfl
            · rw [hb, decide_eq_false e3, decide_eq_false (show ¬ d 0 = 1 by omega)]; simp
          refine k _ T S1 W1 u v x (s07.trans sT) (s07.free hT) upd_same (sT _ _ (s7 _ _ iS1)) (sT _ _ iW1) ⟨hnn, hsup, fun i hi => (hu i hi).1, fun j hj => (hv j hj).1, ?_, fun i hi => ?_, fun j hj => ?_⟩
          · cases hb1 : b1 with
            | false =>
              cases hb2 : b2 with
              | false => exact .inl ⟨fun i hi => (hu2 hb1 i hi).symm, fun j hj => (hv2 hb2 j hj).symm⟩
              | true => exact .inr (.inr ⟨sB hb2, fun i hi => (hu2 hb1 i hi).symm⟩)
            | true => exact .inr (.inl ⟨sA hb1, fun j hj => (hv2 (s12 hb1) j hj).symm⟩)
          · have h1 := hu i hi
            have h2 := hrb i hi
            have h3 := row_nn (n := n) hnn i
            exact hbig _ (by omega) (by omega)
          · have h1 := hv j hj
            have h2 := hcb j hj
            have h3 := col_nn (m := m) hnn j
            exact hbig _ (by omega) (by omega)
end
end K78
end
section
set_option Elab.async false
set_option linter.all false
set_option maxRecDepth 100000
set_option maxHeartbeats 4000000
namespace K78
open PySem PySem.Spec PyProof.Rows L2 He
section
variable {P : Program} {w : World} {K : PySem.W.Frag} {mg : Str → Option Value} {base : Heap}
def sp__law_serve (K : PySem.W.Frag) : Sp := fun vs H Q _ => ∃ (l s t : Addr) (m n : Nat) (a b : Nat → Int) (L : List Pr), vs = [.ref l, .ref s, .ref t] ∧ PairsAt H l L ∧ IntsAt H s m a ∧ IntsAt H t n b ∧ m ≤ 64 ∧ n ≤ 64 ∧ L.length ≤ 64 ∧ L.Nodup ∧ (∀ q ∈ L, q.1 < m ∧ q.2 < n) ∧
  ∀ H' d (f : Pr → Int), Same H H' → H d = none → DmAt H' d L (fun q => .int (f q)) → serve L a b = L.map (fun q => (q, f q)) → Q (.ref d) H'
theorem ok__law_serve (E : TX K mg) : FnOk P w K mg base CX0 1 (a__law_serve K) (fdOf K (a__law_serve K)) P__law_serve (sp__law_serve K) := by
  refine (f__law_serve E).ok sc__law_serve (fun vs H Q E' h => ?_) (fun cdv A outer s H vs Q E' hr h => ?_)
  · obtain ⟨_, _, _, _, _, _, _, _, rfl, _⟩ := h; rfl
  · obtain ⟨l, sa, ta, m, n, a, b, L, rfl, ⟨ts, ol, pts⟩, hs, ht, hm, hn, h64, hnd, hin, k⟩ := h
    refine ⟨_, PSs.nox (pss_cons (ps_set (i := 3) sc__law_serve.nd rfl (Or.inl rfl) (pe_callTy call_list_of (by rfl) (fr_list (K := K) E) (by decide +kernel) (pa_cons (pv 1) pa_nil)))
    (pss_cons (ps_set (i := 4) sc__law_serve.nd rfl (Or.inl rfl) (pe_callTy call_list_of (by rfl) (fr_list (K := K) E) (by decide +kernel) (pa_cons (pv 2) pa_nil)))
    (pss_cons (ps_set (i := 5) sc__law_serve.nd rfl (Or.inl rfl) pe_dnewT)
    (pss_cons (ps_for PassesOwn.never rfl (pi_list (pv 0)) (pg_tup rfl (pgs_cons (pg_name (i := 6) sc__law_serve.nd rfl (Or.inl rfl)) (pgs_cons (pg_name (i := 7) sc__law_serve.nd rfl (Or.inl rfl)) pgs_nil)))
    (pss_cons (ps_set (i := 8) sc__law_serve.nd rfl (Or.inl rfl) (pe_ix ix_list (pv 3) (pv 6) (fun _ _ => rfl)))
    (pss_cons (ps_if (pt_cmpR op_lt (pe_ix ix_list (pv 4) (pv 7) (fun _ _ => rfl)) (pv 8) (nomark _)) (pss_one (ps_set (i := 8) sc__law_serve.nd rfl (Or.inl rfl) (pe_ix ix_list (pv 4) (pv 7) (fun _ _ => rfl)))) pss_nil)
    (pss_cons (ps_augS (pv 3) (pv 6) get_list (pv 8) ip_sub set_listN)
    (pss_cons (ps_augS (pv 4) (pv 7) get_list (pv 8) ip_sub set_listN)
    (pss_one (ps_dput (hu_of hr) (pv 5) (pe_tup (pa_cons (pv 6) (pa_cons (pv 7) pa_nil))) (pv 8) rfl)))))))
    (pss_one (ps_ret (pv 5))))))), ?_⟩
    refine ⟨_, rfl, sa, _, rfl, .inl (SqL.of hs), fun S hS => ?_⟩
    have s1 := Same.new hS (o := .lst (rg m fun i => V.int (a i)))
    refine ⟨_, rfl, ta, _, rfl, .inl (SqL.of (s1 _ _ ht)), fun W hW => ?_⟩
    have s2 := Same.new0 s1 hW (o := .lst (rg n fun i => V.int (b i)))
    intro D hD
    have s3 := Same.new0 s2 hD (o := .dT [])
    have nSW : S ≠ W := ne_of_none upd_same hW
    have hS0 : H S = none := hS
    have hW0 : H W = none := s1.free hW
    have hD0 : H D = none := s2.free hD
    have nlS : l ≠ S := ne_of_none ol hS0
    have nlW : l ≠ W := ne_of_none ol hW0
    have oS := s3.trans (Same.refl _)
    obtain ⟨H1, eH1⟩ : ∃ H1, upd (upd (upd H S (.lst (rg m fun i => V.int (a i)))) W (.lst (rg n fun i => V.int (b i)))) D (.dT []) = H1 := ⟨_, rfl⟩
    have iS1 : IntsAt H1 S m a := by
      show H1 S = _
      rw [← eH1, upd_ne (ne_of_none ((upd_ne nSW).trans upd_same) hD), upd_ne nSW, upd_same]
    have iW1 : IntsAt H1 W n b := by
      show H1 W = _
      rw [← eH1, upd_ne (ne_of_none upd_same hD), upd_same]
    have oD1 : H1 D = some (.dT []) := by rw [← eH1, upd_same]
    rw [eH1] at s3 ⊢
    refine ⟨_, rfl, l, rfl, ⟨_, SqL.of (s3 _ _ ol)⟩, for_list (fun k σ H' => ∃ (v6 v7 v8 : Option V) (a' b' : Nat → Int) (f : Pr → Int), σ = [some (.ref l), some (.ref sa), some (.ref ta), some (.ref S), some (.ref W), some (.ref D), v6, v7, v8] ∧ Same H H' ∧ IntsAt H' S m a' ∧ IntsAt H' W n b' ∧ DmAt H' D (L.take k) (fun q => .int (f q)) ∧ serve L a b = ((L.take k).map fun q => (q, f q)) ++ serve (L.drop k) a' b')
      ⟨none, none, none, a, b, fun _ => 0, rfl, s3, iS1, iW1, oD1, rfl⟩ (fun k σ H' _ ⟨_, _, _, _, _, _, _, s, _⟩ => SqL.of (s _ _ ol)) ?_ ?_⟩
    · rintro k1 x σ H' hx ⟨v6, v7, v8, a', b', f, rfl, s, hSa, hWb, hDm, hsv⟩
      obtain ⟨t', et, rfl⟩ := map_ref_at hx
      obtain ⟨r, er, hr'⟩ := pts.of et
      obtain ⟨i, j⟩ := r
      obtain ⟨w1, w2⟩ := hin _ (List.mem_of_getElem? er)
      have hkl : k1 < L.length := (List.getElem?_eq_some_iff.mp er).1
      have hdr : L.drop k1 = (i, j) :: L.drop (k1 + 1) := by
        rw [List.drop_eq_getElem_cons hkl]
        congr 1
        have := List.getElem?_eq_getElem hkl
        rw [er] at this
        exact (Option.some.inj this).symm
      rw [hdr] at hsv
      have hsv' : serve L a b = ((L.take k1).map fun q => (q, f q)) ++ ((i, j), lesser (a' i) (b' j)) :: serve (L.drop (k1 + 1)) (fset a' i (a' i - lesser (a' i) (b' j))) (fset b' j (b' j - lesser (a' i) (b' j))) := hsv
      have hnew : (i, j) ∉ L.take k1 := nodup_take_not_mem hnd er
      have hr2 := s _ _ hr'
      refine ⟨t', _, rfl, t2_at hr2, rfl, _, _, rfl, _, _, rfl, rfl, ?_⟩
      refine ⟨_, rfl, _, rfl, S, _, _, _, rfl, rfl, SqL.of hSa, atR _ w1, ?_⟩
      obtain ⟨v, hv⟩ : ∃ v, v = lesser (a' i) (b' j) := ⟨_, rfl⟩
      rw [← hv] at hsv'
      dsimp only
      refine tifs_pp (decide (b' j < a' i)) (fun Kk hK => ⟨_, rfl, _, rfl, W, _, _, _, rfl, rfl, SqL.of hWb, atR _ w2, _, rfl, _, _, rfl, rfl, _, rfl, hK⟩) (fun σ H'' => σ = [some (.ref l), some (.ref sa), some (.ref ta), some (.ref S), some (.ref W), some (.ref D), some (.int (i : Int)), some (.int (j : Int)), some (.int v)] ∧ H'' = H')
        (fun hb rest => ⟨_, rfl, _, rfl, W, _, _, _, rfl, rfl, SqL.of hWb, atR _ w2, rest _ _ ⟨?_, rfl⟩⟩) (fun hb rest => rest _ _ ⟨?_, rfl⟩) ?_
      · rw [hv]; unfold lesser; rw [if_pos (of_decide_eq_true hb)]; rfl
      · rw [hv]; unfold lesser; rw [if_neg (of_decide_eq_false hb)]; rfl
      rintro σ H'' ⟨rfl, rfl⟩
      have hSr : (rg m fun i => V.int (a' i))[i]? = some (.int (a' i)) := rg_at _ w1
      have hWr : (rg n fun i => V.int (b' i))[j]? = some (.int (b' j)) := rg_at _ w2
      refine ⟨_, rfl, _, rfl, S, _, i, _, rfl, rfl, SqL.of hSa, hSr, _, rfl, _, _, rfl, rfl, S, _, i, rfl, rfl, hSa, (by rw [rg_len]; exact w1), ?_⟩
      refine ⟨_, rfl, _, rfl, W, _, j, _, rfl, rfl, SqL.of ((upd_ne nSW.symm).trans hWb), hWr, _, rfl, _, _, rfl, rfl, W, _, j, rfl, rfl, (upd_ne nSW.symm).trans hWb, (by rw [rg_len]; exact w2), ?_⟩
      refine ⟨_, rfl, _, rfl, _, rfl, _, rfl, by show 2 ≤ sizeLine; decide, fun T hT => ?_⟩
      rw [rg_set, rg_set] at hT ⊢
      obtain ⟨H2, e1⟩ : ∃ H2, upd (upd H'' S (.lst (rg m fun k => if k = i then .int (a' i - v) else .int (a' k)))) W (.lst (rg n fun k => if k = j then .int (b' j - v) else .int (b' k))) = H2 := ⟨_, rfl⟩
      have nTS : T ≠ S := fun e => by rw [e, upd_ne nSW, upd_same] at hT; cases hT
      have nTW : T ≠ W := fun e => by rw [e, upd_same] at hT; cases hT
      have hT' : H'' T = none := by rw [upd_ne nTW, upd_ne nTS] at hT; exact hT
      have hS2 : IntsAt H2 S m (fset a' i (a' i - v)) := by
        show H2 S = _
        rw [← e1, upd_ne nSW, upd_same]
        congr 2
        exact rg_congr fun k _ => by unfold fset; split <;> rfl
      have hW2 : IntsAt H2 W n (fset b' j (b' j - v)) := by
        show H2 W = _
        rw [← e1, upd_same]
        congr 2
        exact rg_congr fun k _ => by unfold fset; split <;> rfl
      have oth : ∀ {x : Addr}, x ≠ S → x ≠ W → H2 x = H'' x := fun h1 h2 => by rw [← e1, upd_ne h2, upd_ne h1]
      have sH2 : Same H H2 := by rw [← e1]; exact Same.up (Same.up s hS0) hW0
      have nDS : D ≠ S := ne_of hDm hSa (by intro z; cases z)
      have nDW : D ≠ W := ne_of hDm hWb (by intro z; cases z)
      have nDT : D ≠ T := ne_of_none hDm hT'
      have hD2 : H2 D = some (.dT (dm (L.take k1) fun q => .int (f q))) := (oth nDS nDW).trans hDm
      rw [e1]
      refine ⟨D, _, rfl, DPut.t ((upd_ne nDT).trans hD2) (ky_tup (q := (i, j)) upd_same) ?_, ?_⟩
      · rw [dm_len, List.length_take]
        exact Nat.lt_of_le_of_lt (Nat.le_trans (Nat.min_le_right _ _) h64) (by decide)
      · refine ⟨_, _, _, fset a' i (a' i - v), fset b' j (b' j - v), fun r => if r = (i, j) then v else f r, rfl, Same.up (Same.up sH2 (s.free hT')) hD0, ?_, ?_, ?_, ?_⟩
        · exact (upd_ne nDS.symm).trans ((upd_ne nTS.symm).trans hS2)
        · exact (upd_ne nDW.symm).trans ((upd_ne nTW.symm).trans hW2)
        · show upd _ _ _ _ = _
          rw [upd_same, take_snoc er, dm_put_any hnew]
          congr 2
          exact dm_congr fun r _ => by
            show (if r = (i, j) then V.int v else .int (f r)) = V.int (if r = (i, j) then v else f r)
            split <;> rfl
        · rw [hsv', take_snoc er, List.map_append, hv]
          rw [List.append_assoc]
          congr 1
          · exact List.map_congr_left fun r hr => by
              show (r, f r) = (r, if r = (i, j) then _ else f r)
              rw [if_neg (show ¬ r = (i, j) from fun e => hnew (by rw [← e]; exact hr))]
          · show _ = [((i, j), if (i, j) = (i, j) then lesser (a' i) (b' j) else f (i, j))] ++ _
            rw [if_pos rfl]
            rfl
    · rintro σ H' ⟨v6, v7, v8, a', b', f, rfl, s, hSa, hWb, hDm, hsv⟩
      rw [List.length_map, pts.1, List.take_length] at hDm hsv
      rw [List.drop_length] at hsv
      refine ⟨_, rfl, k H' D f s hD0 hDm ?_⟩
      rw [hsv]
      show _ ++ serve [] a' b' = _
      rw [show serve [] a' b' = [] from rfl, List.append_nil]
/-- order objects one by one -/
def OrdsAt (K : PySem.W.Frag) (H : Hp) (ps : List Addr) (os : List (List Pr)) : Prop := ps.length = os.length ∧ ∀ (i : Nat) p L, ps[i]? = some p → os[i]? = some L → OrdAt K H p L
theorem OrdsAt.same {H H' : Hp} {ps : List Addr} {os : List (List Pr)} (h : OrdsAt K H ps os) (s : Same H H') : OrdsAt K H' ps os := ⟨h.1, fun i p L e f => (h.2 i p L e f).same s⟩
theorem OrdsAt.snoc {H : Hp} {ps : List Addr} {os : List (List Pr)} {p : Addr} {L : List Pr} (h : OrdsAt K H ps os) (o : OrdAt K H p L) : OrdsAt K H (ps ++ [p]) (os ++ [L]) := by
  refine ⟨by rw [List.length_append, List.length_append, h.1]; rfl, fun i q M e f => ?_⟩
  by_cases hi : i < ps.length
  · rw [List.getElem?_append_left hi] at e
    rw [List.getElem?_append_left (h.1 ▸ hi)] at f
    exact h.2 i q M e f
  · rw [List.getElem?_append_right (by omega)] at e
    rw [List.getElem?_append_right (by rw [← h.1]; omega), ← h.1] at f
    cases z : i - ps.length with
    | zero =>
      rw [z] at e f
      cases e; cases f
      exact o
    | succ r => rw [z] at e; cases e
theorem OrdAt.push {H : Hp} {ps : List Addr} {os : List (List Pr)} {p D : Addr} {L : List Pr} {xs : List V} (h : OrdAt K H p L) (hp : OrdsAt K H ps os) (oD : H D = some (.lst (ps.map V.ref))) (hne : ps ≠ []) : OrdAt K (upd H D (.lst xs)) p L := by
  obtain ⟨dx, l, d, e, ts, ol, q⟩ := h
  have nl : l ≠ D := fun z => by
    rw [z, oD] at ol
    cases ps with
    | nil => exact hne rfl
    | cons p0 ps =>
      cases ts with
      | nil => simp at ol
      | cons t0 ts =>
        have e0 : p0 = t0 := by
          have := Option.some.inj ol
          injection this with this
          rw [List.map_cons, List.map_cons] at this
          injection this with this _
          injection this
        obtain ⟨r, _, hr⟩ := q.of (show (t0 :: ts)[0]? = some t0 from rfl)
        cases os with
        | nil => cases hp.1
        | cons o0 os =>
          obtain ⟨dx2, l2, d2, e2, _⟩ := hp.2 0 p0 o0 rfl rfl
          rw [e0] at e2
          have : H t0 = some (.tup [.int (r.1 : Int), .int (r.2 : Int)]) := hr
          rw [this] at e2
          cases e2
  exact ⟨dx, l, d, (upd_ne (ne_of e oD (by intro z; cases z))).trans e, ts, (upd_ne nl).trans ol, q.map fun u i j eu => (upd_ne (ne_of eu oD (by intro z; cases z))).trans eu⟩
def sp__law_ways (K : PySem.W.Frag) : Sp := fun vs H Q _ => ∃ (o a : Addr) (G : List Pr → Prop) (L1 : List Pr) (ks : List Nat) (os : List (List Pr)), vs = [.ref o, .ref a] ∧ OrdAt K H o L1 ∧ H a = some (.lst (ks.map nv)) ∧ ks.length ≤ 4096 ∧ Ways G L1 ks os ∧ (∀ L ∈ os, small L) ∧
  ∀ H' d ps, Same H H' → H d = none → H' d = some (.lst (ps.map V.ref)) → OrdsAt K H' ps os → Q (.ref d) H'
theorem ok__law_ways (E : TX K mg) : FnOk P w K mg base CX0 7 (a__law_ways K) (fdOf K (a__law_ways K)) P__law_ways (sp__law_ways K) := by
  refine (f__law_ways E).ok sc__law_ways (fun vs H Q E' h => ?_) (fun cdv A outer s H vs Q E' hr h => ?_)
  · obtain ⟨_, _, _, _, _, _, rfl, _⟩ := h; rfl
  · obtain ⟨o, ka, G, L1, ks, os, rfl, ho, hk, hkn, wy, hsm, k⟩ := h
    refine ⟨_, PSs.nox (pss_cons (ps_set (i := 2) sc__law_ways.nd rfl (Or.inl rfl) (pe_lst (pa_cons (pv 0) pa_nil)))
    (pss_cons (ps_for PassesOwn.never rfl (pi_list (pv 1)) (pg_name (i := 3) sc__law_ways.nd rfl (Or.inl rfl))
    (pss_cons (ps_set (i := 0) sc__law_ways.nd rfl (Or.inl rfl) (pe_meth (pv 0) (cl_Order (K := K) E) (m_Order_exchanged (K := K) E) (ok_Order_exchanged (K := K) E) (hr.mono (by decide)) (b_Order_exchanged (K := K) E) .nil pass0 (pa_cons (pv 3) pa_nil)))
    (pss_one (ps_expr (pe_bm PySem.F.plainAttrs_list PySem.F.slot_list_append PySem.F.type_list_append mt_append (pv 2) (pa_cons (pv 0) pa_nil))))))
    (pss_one (ps_ret (pv 2))))), ?_⟩
    refine ⟨_, rfl, Nat.succ_le_of_lt (by decide), fun D hD => ?_⟩
    have s0 := Same.new hD (o := .lst [.ref o])
    have z0 := wy.zero
    refine ⟨_, rfl, ka, rfl, ⟨_, SqL.of (s0 _ _ hk)⟩, for_list (fun i σ H' => ∃ (v3 : Option V) (q : Addr) (L : List Pr) (ps : List Addr), σ = [some (.ref q), some (.ref ka), some (.ref D), v3] ∧ Same H H' ∧ OrdAt K H' q L ∧ os[i]? = some L ∧ H' D = some (.lst (ps.map V.ref)) ∧ OrdsAt K H' ps (os.take (i + 1)))
      ⟨none, o, L1, [o], rfl, s0, ho.same s0, z0, upd_same, ?_⟩ (fun i σ H' _ ⟨_, _, _, _, _, s, _⟩ => SqL.of (s _ _ hk)) ?_ ?_⟩
    · cases os with
      | nil => cases z0
      | cons a t =>
        cases z0
        exact ⟨rfl, fun i p L e f => by
          cases i with
          | zero => cases e; cases f; exact ho.same s0
          | succ i => cases e⟩
    · rintro i x σ H' hx ⟨v3, q, L, ps, rfl, s, hq, eL, oD, hps⟩
      rw [List.getElem?_map] at hx
      cases e1 : ks[i]? with
      | none => rw [e1] at hx; cases hx
      | some k1 =>
        rw [e1] at hx
        cases hx
        obtain ⟨A1, x1, y1, B1, w1, rfl, w2⟩ := wy.step i k1 e1
        have hi : i < ks.length := (List.getElem?_eq_some_iff.mp e1).1
        rw [eL] at w1
        cases w1
        obtain ⟨dx, lo, so, hpo, _⟩ := id hq
        have hne : ps ≠ [] := fun z => by
          have h1 := hps.1
          have h2 := wy.len
          rw [z, List.length_take] at h1
          have : min (i + 1) os.length = 0 := h1.symm
          omega
        refine ⟨_, rfl, q, dx, _, rfl, hpo, rfl, _, rfl, q, A1, B1, x1, y1, rfl, hq, hsm _ (List.mem_of_getElem? eL), fun H2 q2 s2 hq2 o2 => ?_⟩
        refine ⟨_, rfl, .inl ⟨rfl, _, SqL.of (s2 _ _ oD)⟩, _, rfl, D, _, _, rfl, rfl, s2 _ _ oD, ?_, ?_⟩
        · rw [List.length_map, hps.1, List.length_take]
          exact Nat.lt_of_le_of_lt (show min (i + 1) os.length ≤ 4097 by omega) (by decide)
        · refine ⟨_, q2, _, ps ++ [q2], rfl, Same.up (s.trans s2) hD, ?_, w2, ?_, ?_⟩
          · exact OrdAt.push o2 (hps.same s2) (s2 _ _ oD) hne
          · rw [upd_same, map_ref_snoc]
          · rw [take_snoc w2]
            refine OrdsAt.snoc ⟨hps.1, fun i p L e f => OrdAt.push ((hps.same s2).2 i p L e f) (hps.same s2) (s2 _ _ oD) hne⟩ (OrdAt.push o2 (hps.same s2) (s2 _ _ oD) hne)
    · rintro σ H' ⟨v3, q, L, ps, rfl, s, hq, eL, oD, hps⟩
      rw [List.length_map, ← wy.len, List.take_length] at hps
      exact ⟨_, rfl, k H' D ps s hD oD hps⟩
def sp__law_cost_of (K : PySem.W.Frag) : Sp := fun vs H Q _ => ∃ (g d : Addr) (m n : Nat) (c : Nat → Nat → Option Int) (L : List Pr) (f : Pr → Int), vs = [.ref g, .ref d] ∧ GridAt H g m n c ∧ dim m n ∧ DmAt H d L (fun q => .int (f q)) ∧ (∀ q ∈ cells m n c, q ∈ L ∧ Bd 1000 (vl c q) ∧ Bd 1000 (f q)) ∧
  ∀ H', Same H H' → Q (.int (((cells m n c).map fun q => vl c q * f q).sum)) H'
theorem ok__law_cost_of (E : TX K mg) : FnOk P w K mg base CX0 2 (a__law_cost_of K) (fdOf K (a__law_cost_of K)) P__law_cost_of (sp__law_cost_of K) := by
  refine (f__law_cost_of E).ok sc__law_cost_of (fun vs H Q E' h => ?_) (fun cdv A outer s H vs Q E' hr h => ?_)
  · obtain ⟨_, _, _, _, _, _, _, rfl, _⟩ := h; rfl
  · obtain ⟨g, d, m, n, c, L, f, rfl, hgr, hd, hdm, hB, k⟩ := h
    refine ⟨_, PSs.nox (pss_one (ps_ret (pe_callB (cr_sum rfl) (by rfl) (fr_sum (K := K) E) (by decide +kernel) (pa_cons (pe_lc (own := [("_law_spot", 2)]) rfl sc__law_cost_of.nd (pi_list (pe_call (ok__law_spots (K := K) E) (hr.mono (by decide)) rfl (g__law_spots (K := K) E) (k__law_spots (K := K) E) (b__law_spots (K := K) E) .nil pass0 (pa_cons (pv 0) pa_nil))) (blkOk_by (own := [("_law_spot", 2)]) (N := N__law_cost_of) (sc := defScope s__law_cost_of) (by decide +kernel)) (fun _ _ _ _ _ => (pg_name (i := 2) sc__law_cost_of.nd rfl (Or.inl rfl))) (fun _ _ _ _ _ => pts_nil) (fun _ _ _ _ _ => (pe_op op_mulW (pe_ix (ix_listK (K := K) rfl) (pe_ix (ix_listK (K := K) rfl) (pv 0) (pe_ix (ix_tupK (K := K) rfl) (pv 2) pe_int (fun _ _ => rfl)) (fun _ _ => rfl)) (pe_ix (ix_tupK (K := K) rfl) (pv 2) pe_int (fun _ _ => rfl)) (fun _ _ => rfl)) (pe_dget (hu_of hr) (pv 1) (pv 2) (fun _ _ => rfl))))) pa_nil)))), ?_⟩
    obtain ⟨r, hg⟩ := id hgr
    refine ⟨_, rfl, g, m, n, c, rfl, hgr, hd, fun H1 l s1 hl ⟨ts, ol, pts⟩ => ?_⟩
    refine ⟨l, rfl, ⟨_, SqL.of ol⟩, fun D hD => ?_⟩
    refine walk_go (walk_list (xs := ts.map V.ref)) (fun i H' => Same H1 H' ∧ H' D = some (.lst ((((cells m n c).take i).map fun q => vl c q * f q).map V.int))) ⟨Same.new hD, upd_same⟩ (fun i H' _ ⟨s, _⟩ => SqL.of (s _ _ ol)) ?_ ?_
    · rintro i x H' H'' hi ⟨s, o⟩ ⟨rfl, hx⟩
      obtain ⟨u, eu, rfl⟩ := map_ref_at hx
      obtain ⟨q, eq, hq⟩ := pts.of eu
      have hqc := List.mem_of_getElem? eq
      obtain ⟨c1, c2, c3⟩ := mem_cells.mp hqc
      obtain ⟨b0, b1, b2⟩ := hB _ hqc
      have hq2 := s _ _ hq
      have s2 := s1.trans s
      have eov : ov (c q.1 q.2) = .int (vl c q) := ov_vl c3
      refine ⟨rfl, _, rfl, _, rfl, u, _, _, _, rfl, rfl, t2_at hq2, rfl, g, _, _, _, rfl, rfl, SqL.of (s2 _ _ hg.o), atR _ c1, ?_⟩
      refine ⟨_, rfl, u, _, _, _, rfl, rfl, t2_at hq2, rfl, r q.1, _, _, _, rfl, rfl, SqL.of (s2 _ _ (hg.r _ c1)), atR _ c2, ?_⟩
      rw [eov]
      refine ⟨_, rfl, _, rfl, d, _, rfl, dm_get_in (s2 _ _ hdm) hq2 b0, _, _, rfl, rfl, wide_mul b1 b2 (by decide) (by decide) (by decide), _, o, ?_, Same.up s hD, ?_⟩
      · rw [List.length_map, List.length_map, List.length_take]
        exact Nat.lt_of_le_of_lt (Nat.le_trans (Nat.min_le_right _ _) (cells64 c hd)) (by decide)
      · rw [upd_same, take_snoc eq, List.map_append, List.map_append]; rfl
    · rintro H3 ⟨s3, o⟩
      rw [List.length_map, pts.1, List.take_length] at o
      exact ⟨D, _, rfl, SqL.of o, k H3 (s1.trans s3)⟩
end
end K78
end
section
set_option Elab.async false
set_option linter.all false
set_option maxRecDepth 100000
set_option maxHeartbeats 4000000
namespace K78
open PySem PySem.Spec PyProof.Rows L2 He
theorem S_exact {n : Nat} {f g : Nat → Int} (h : ∀ i, i < n → f i ≤ g i) (e : S n g ≤ S n f) : ∀ i, i < n → f i = g i := by
  induction n with
  | zero => intro i hi; omega
  | succ n ih =>
    have h1 : S n f ≤ S n g := S_le fun i hi => h i (by omega)
    have e' : S n g + g n ≤ S n f + f n := e
    have h2 := h n (by omega)
    intro i hi
    by_cases z : i = n
    · subst z; omega
    · exact ih (fun i hi => h i (by omega)) (by omega) i (by omega)
theorem cellsRow_sum (n : Nat) (f : Nat → Option Int) (i : Nat) (h : Pr → Int) : ((cellsRow n f i).map h).sum = S n fun j => if (f j).isSome then h (i, j) else 0 := by
  induction n with
  | zero => rfl
  | succ n ih =>
    rw [cellsRow_succ, List.map_append, List.sum_append, ih]
    show _ = S n _ + if (f n).isSome then h (i, n) else 0
    cases e : f n <;> simp
theorem cells_sum (m n : Nat) (c : Nat → Nat → Option Int) (h : Pr → Int) : ((cells m n c).map h).sum = S m fun i => S n fun j => if (c i j).isSome then h (i, j) else 0 := by
  induction m with
  | zero => rfl
  | succ m ih =>
    rw [cells_succ, List.map_append, List.sum_append, ih, cellsRow_sum]
    rfl
abbrev vp (c : Nat → Nat → Option Int) : Nat → Nat → Int := fun i j => vl c (i, j)
theorem cells_dot (m n : Nat) (c : Nat → Nat → Option Int) (y : Nat → Nat → Int) : ((cells m n c).map fun q => vl c q * y q.1 q.2).sum = dot m n (vp c) y := by
  rw [cells_sum]
  refine S_congr fun i _ => S_congr fun j _ => ?_
  unfold vp vl
  cases e : c i j with
  | none => simp
  | some p => simp [e]
theorem filter_sum (L : List Pr) (f g : Pr → Int) (h : ∀ q ∈ L, 0 ≤ f q) : ((L.filter fun q => decide (f q > 0)).map fun q => g q * f q).sum = (L.map fun q => g q * f q).sum := by
  induction L with
  | nil => rfl
  | cons q L ih =>
    have h1 := h q (by simp)
    have h2 := ih fun r hr => h r (List.mem_cons_of_mem _ hr)
    rw [List.map_cons, List.sum_cons, ← h2]
    by_cases z : f q > 0
    · rw [List.filter_cons_of_pos (by simpa using z), List.map_cons, List.sum_cons]
    · rw [List.filter_cons_of_neg (by simpa using z), show f q = 0 by omega, Int.mul_zero, Int.zero_add]
theorem costS_dot {m n : Nat} {c : Nat → Nat → Option Int} {f : Nat → Nat → Int} (h : ∀ i j, 0 ≤ f i j) : costS c m n (fun q => f q.1 q.2) = dot m n (vp c) f := by
  unfold costS
  rw [filter_sum _ (fun q : Pr => f q.1 q.2) (vl c) fun q _ => h _ _]
  exact cells_dot m n c f
/-- what serving gives, as a table -/
theorem serve_table {m n : Nat} : ∀ (L : List Pr) (a b : Nat → Int), nonneg m n a b → L.Nodup → (∀ q ∈ L, q.1 < m ∧ q.2 < n) →
    ∃ y : Nat → Nat → Int, (∀ i j, 0 ≤ y i j) ∧ (∀ i j, (i, j) ∉ L → y i j = 0) ∧ (∀ i, i < m → row n y i ≤ a i) ∧ (∀ j, j < n → col m y j ≤ b j) ∧ (∀ p, dot m n p y = lcost p (serve L a b)) ∧ serve L a b = L.map fun q => (q, y q.1 q.2) := by
  intro L
  induction L with
  | nil =>
    intro a b h _ _
    refine ⟨fun _ _ => 0, fun _ _ => Int.le_refl _, fun _ _ _ => rfl, fun i hi => ?_, fun j hj => ?_, fun p => ?_, rfl⟩
    · rw [row_zero]; exact h.1 i hi
    · rw [col_zero]; exact h.2 j hj
    · show dot m n p (fun _ _ => 0) = 0
      unfold dot
      rw [S_congr (g := fun _ => 0) (fun i _ => by rw [S_congr (g := fun _ => 0) (fun j _ => Int.mul_zero _), S_zero]), S_zero]
  | cons q r ih =>
    obtain ⟨i, j⟩ := q
    intro a b h hn hL
    obtain ⟨hi, hj⟩ : i < m ∧ j < n := hL (i, j) (by simp)
    obtain ⟨v, hv⟩ : ∃ v, lesser (a i) (b j) = v := ⟨_, rfl⟩
    have h1 := lesser_le_l (a i) (b j)
    have h2 := lesser_le_r (a i) (b j)
    have h3 : 0 ≤ lesser (a i) (b j) := by
      have := h.1 i hi
      have := h.2 j hj
      rcases lesser_or (a i) (b j) with e | e <;> omega
    have hs : serve ((i, j) :: r) a b = ((i, j), v) :: serve r (fset a i (a i - v)) (fset b j (b j - v)) := by rw [← hv]; rfl
    rw [hv] at h1 h2 h3
    obtain ⟨hnr, hn2⟩ := List.nodup_cons.mp hn
    obtain ⟨y, y1, y2, y3, y4, y5, y6⟩ := ih (fset a i (a i - v)) (fset b j (b j - v)) ⟨fun k hk => by
        have := h.1 k hk
        unfold fset; split <;> omega, fun k hk => by
        have := h.2 k hk
        unfold fset; split <;> omega⟩ hn2 fun q hq => hL q (List.mem_cons_of_mem _ hq)
    refine ⟨bump y i j v, fun k l => ?_, fun k l hkl => ?_, fun k hk => ?_, fun l hl => ?_, fun p => ?_, ?_⟩
    · unfold bump
      have := y1 k l
      split <;> omega
    · unfold bump
      rw [if_neg fun z => hkl (by rw [z.1, z.2]; simp)]
      exact y2 k l fun z => hkl (List.mem_cons_of_mem _ z)
    · rw [row_bump _ _ _ _ hj]
      have := y3 k hk
      unfold fset at this
      split <;> rename_i z
      · rw [if_pos z] at this; rw [z] at this ⊢; omega
      · rw [if_neg z] at this; omega
    · rw [col_bump _ _ _ _ hi]
      have := y4 l hl
      unfold fset at this
      split <;> rename_i z
      · rw [if_pos z] at this; rw [z] at this ⊢; omega
      · rw [if_neg z] at this; omega
    · rw [dot_bump _ _ _ _ _ hi hj, y5, hs]
      show _ = p i j * v + lcost p _
      omega
    · rw [hs, y6, List.map_cons]
      have e0 : y i j = 0 := y2 i j hnr
      congr 1
      · show _ = ((i, j), bump y i j v i j)
        rw [bump_same, e0, Int.zero_add]
      · exact List.map_congr_left fun q hq => by
          rw [bump_ne _ _ fun z => hnr (by rw [← z.1, ← z.2]; exact hq)]
theorem serve_app : ∀ (A : List Pr) (a b : Nat → Int), ∃ a' b', ∀ R, serve (A ++ R) a b = serve A a b ++ serve R a' b'
  | [], a, b => ⟨a, b, fun R => rfl⟩
  | (i, j) :: r, a, b => by
    obtain ⟨a', b', h⟩ := serve_app r (fset a i (a i - lesser (a i) (b j))) (fset b j (b j - lesser (a i) (b j)))
    refine ⟨a', b', fun R => ?_⟩
    show _ :: serve (r ++ R) _ _ = _ :: serve r _ _ ++ _
    rw [h]
    rfl
theorem fset_comm {a : Nat → Int} {i k : Nat} (h : i ≠ k) (u v : Int) : fset (fset a i u) k v = fset (fset a k v) i u := by
  funext l
  unfold fset
  by_cases e1 : l = k
  · by_cases e2 : l = i
    · exact absurd (e2.symm.trans e1) h
    · simp [e1, Ne.symm h]
  · simp [e1]
theorem serve_swap {A B : List Pr} {x y : Pr} {a b : Nat → Int} {f g : Pr → Int} (h1 : x.1 ≠ y.1) (h2 : x.2 ≠ y.2)
    (hf : serve (A ++ x :: y :: B) a b = (A ++ x :: y :: B).map fun q => (q, f q)) (hg : serve (A ++ y :: x :: B) a b = (A ++ y :: x :: B).map fun q => (q, g q)) : ∀ q ∈ A ++ x :: y :: B, f q = g q := by
  obtain ⟨a', b', h⟩ := serve_app A a b
  obtain ⟨i, j⟩ := x
  obtain ⟨k, l⟩ := y
  have h1' : i ≠ k := h1
  have h2' : j ≠ l := h2
  rw [h] at hf hg
  have e1 : serve ((i, j) :: (k, l) :: B) a' b' = ((i, j), lesser (a' i) (b' j)) :: ((k, l), lesser (a' k) (b' l)) :: serve B (fset (fset a' i (a' i - lesser (a' i) (b' j))) k (a' k - lesser (a' k) (b' l))) (fset (fset b' j (b' j - lesser (a' i) (b' j))) l (b' l - lesser (a' k) (b' l))) := by
    show _ :: (_, lesser (fset a' i _ k) (fset b' j _ l)) :: serve B (fset (fset a' i _) k (fset a' i _ k - lesser (fset a' i _ k) (fset b' j _ l))) (fset (fset b' j _) l (fset b' j _ l - lesser (fset a' i _ k) (fset b' j _ l))) = _
    rw [show ∀ v, fset a' i v k = a' k from fun v => if_neg h1'.symm, show ∀ v, fset b' j v l = b' l from fun v => if_neg h2'.symm]
  have e2 : serve ((k, l) :: (i, j) :: B) a' b' = ((k, l), lesser (a' k) (b' l)) :: ((i, j), lesser (a' i) (b' j)) :: serve B (fset (fset a' k (a' k - lesser (a' k) (b' l))) i (a' i - lesser (a' i) (b' j))) (fset (fset b' l (b' l - lesser (a' k) (b' l))) j (b' j - lesser (a' i) (b' j))) := by
    show _ :: (_, lesser (fset a' k _ i) (fset b' l _ j)) :: serve B (fset (fset a' k _) i (fset a' k _ i - lesser (fset a' k _ i) (fset b' l _ j))) (fset (fset b' l _) j (fset b' l _ j - lesser (fset a' k _ i) (fset b' l _ j))) = _
    rw [show ∀ v, fset a' k v i = a' i from fun v => if_neg h1', show ∀ v, fset b' l v j = b' j from fun v => if_neg h2']
  rw [fset_comm h1', fset_comm h2'] at e1
  rw [e1] at hf
  rw [e2] at hg
  intro q hq
  have m1 : (q, f q) ∈ (A ++ (i, j) :: (k, l) :: B).map fun q => (q, f q) := List.mem_map_of_mem hq
  rw [← hf] at m1
  have m2 : (q, f q) ∈ (A ++ (k, l) :: (i, j) :: B).map fun q => (q, g q) := by
    rw [← hg]
    rw [List.mem_append] at m1 ⊢
    rcases m1 with m1 | m1
    · exact .inl m1
    · refine .inr ?_
      rcases List.mem_cons.mp m1 with m1 | m1
      · rw [m1]; simp
      · rcases List.mem_cons.mp m1 with m1 | m1
        · rw [m1]; simp
        · exact List.mem_cons_of_mem _ (List.mem_cons_of_mem _ m1)
  obtain ⟨r, _, er⟩ := List.mem_map.mp m2
  injection er with z1 z2
  rw [z1] at z2
  exact z2.symm
theorem okl_of {m n : Nat} {c : Nat → Nat → Option Int} {z : Str} : ∀ (L : List Pr), (∀ q ∈ L, q.1 < m ∧ q.2 < n ∧ (c q.1 q.2).isSome = true) → NoFault m n c z L → Okl c (cA z = true) (cB z = true) (vp c) L
  | [], _, _ => trivial
  | (i, j) :: r, hL, hn => by
    obtain ⟨b1, b2, b3⟩ : NoBar m n c z r i j := hn 0 (i, j) rfl
    have hr : ∀ q ∈ r, q.1 < m ∧ q.2 < n ∧ (c q.1 q.2).isSome = true := fun q hq => hL q (List.mem_cons_of_mem _ hq)
    refine ⟨fun k l hk hl h1 h2 => ?_, fun hA k hk h => ?_, fun hB l hl h => ?_, okl_of r hr fun k q e => hn (k + 1) q e⟩
    · have := b1 k l (hr _ h2).1 (hr _ h1).2.1 hk hl h2 h1
      unfold dearB at this
      cases e : c k l with
      | none => rw [e] at this; cases this
      | some p =>
        rw [e] at this
        have := of_decide_eq_false this
        exact ⟨rfl, by show vl c _ + vl c _ ≤ vl c _ + vl c _; omega⟩
    · exact b2 hA k (hr _ h).1 hk h
    · exact b3 hB l (hr _ h).2.1 hl h
theorem dot_congr {m n : Nat} {p q x y : Nat → Nat → Int} (h : ∀ i, i < m → ∀ j, j < n → p i j * x i j = q i j * y i j) : dot m n p x = dot m n q y := S_congr fun i hi => S_congr fun j hj => h i hi j hj
/-- the extra line costs nothing -/
theorem ext_dot (m n : Nat) (o : Int) (c : Nat → Nat → Option Int) (f : Nat → Nat → Int) : dot (exm m o) (exn n o) (pc (exC m n o c)) f = dot m n (vp c) f := by
  have core : dot m n (pc (exC m n o c)) f = dot m n (vp c) f := dot_congr fun i hi j hj => by
    unfold pc exC
    rw [if_neg (by omega)]
    rfl
  unfold exm exn
  by_cases h1 : o < 0
  · rw [if_pos h1, if_neg (by omega), ← core]
    show dot m n _ f + S n _ = _
    rw [S_congr (g := fun _ => 0) (fun j _ => by unfold pc exC; rw [if_pos (.inr ⟨h1, rfl⟩)]; exact Int.zero_mul _), S_zero, Int.add_zero]
  · rw [if_neg h1]
    by_cases h2 : 0 < o
    · rw [if_pos h2, ← core]
      refine S_congr fun i _ => ?_
      have e : pc (exC m n o c) i n = 0 := by
        unfold pc exC
        rw [if_pos (.inl ⟨h2, rfl⟩)]; rfl
      show S n _ + pc (exC m n o c) i n * f i n = _
      rw [e, Int.zero_mul, Int.add_zero]
    · rw [if_neg h2, core]
theorem total_le {m n : Nat} {a b : Nat → Int} {x : Nat → Nat → Int} (hr : ∀ i, i < m → row n x i ≤ a i) (hc : ∀ j, j < n → col m x j ≤ b j) : total m n x ≤ S m a ∧ total m n x ≤ S n b := by
  refine ⟨?_, ?_⟩
  · rw [total_row]; exact S_le hr
  · rw [total_col]; exact S_le hc
/-- the most that can be served -/
theorem fit_of_total {m n : Nat} {c : Nat → Nat → Option Int} {a b : Nat → Int} {x : Nat → Nat → Int} (hn : ∀ i j, 0 ≤ x i j) (hs : ∀ i, i < m → ∀ j, j < n → 0 < x i j → (c i j).isSome = true)
    (hr : ∀ i, i < m → row n x i ≤ a i) (hc : ∀ j, j < n → col m x j ≤ b j) (ht : total m n x = lesser (S m a) (S n b)) : Fit m n c a b x := by
  unfold lesser at ht
  refine ⟨hn, hs, hr, hc, fun h => S_exact hr ?_, fun h => S_exact hc ?_⟩
  · rw [if_neg (by omega), total_row] at ht
    exact Int.le_of_eq ht.symm
  · have e := total_col m n x
    show S n b ≤ S n fun j => col m x j
    rw [← e, ht]
    split <;> omega
theorem tight_total {m n : Nat} {A B : Prop} {a b : Nat → Int} {x : Nat → Nat → Int} (hr : ∀ i, i < m → row n x i ≤ a i) (hc : ∀ j, j < n → col m x j ≤ b j) (t : Tight m n A B a b x) :
    total m n x = lesser (S m a) (S n b) ∧ (S m a < S n b → B) ∧ (S n b < S m a → A) := by
  obtain ⟨h1, h2⟩ := total_le hr hc
  unfold lesser
  rcases t with ⟨t1, t2⟩ | ⟨hA, t2⟩ | ⟨hB, t1⟩
  · have e1 : total m n x = S m a := by rw [total_row]; exact S_congr t1
    have e2 : total m n x = S n b := by rw [total_col]; exact S_congr t2
    refine ⟨by split <;> omega, fun h => by omega, fun h => by omega⟩
  · have e2 : total m n x = S n b := by rw [total_col]; exact S_congr t2
    refine ⟨by split <;> omega, fun h => by omega, fun _ => hA⟩
  · have e1 : total m n x = S m a := by rw [total_row]; exact S_congr t1
    refine ⟨by split <;> omega, fun _ => hB, fun h => by omega⟩
/-- a serving and the extra line -/
def exX (m n : Nat) (o : Int) (a b : Nat → Int) (x : Nat → Nat → Int) : Nat → Nat → Int := fun i j => if 0 < o ∧ j = n then (if i < m then a i - row n x i else 0) else if o < 0 ∧ i = m then (if j < n then b j - col m x j else 0) else x i j
theorem row_congr {n : Nat} {x y : Nat → Nat → Int} {i : Nat} (h : ∀ j, j < n → x i j = y i j) : row n x i = row n y i := S_congr h
theorem col_congr {m : Nat} {x y : Nat → Nat → Int} {j : Nat} (h : ∀ i, i < m → x i j = y i j) : col m x j = col m y j := S_congr h
theorem exX_in {m n : Nat} {o : Int} {a b : Nat → Int} {x : Nat → Nat → Int} {i j : Nat} (hi : i < m) (hj : j < n) : exX m n o a b x i j = x i j := by
  unfold exX
  rw [if_neg (by omega), if_neg (by omega)]
theorem ext_of {m n : Nat} {c : Nat → Nat → Option Int} {a b : Nat → Int} {x : Nat → Nat → Int} (F : Fit m n c a b x) : Ext m n c a b (exX m n (S m a - S n b) a b x) := by
  obtain ⟨o, eo⟩ : ∃ o, S m a - S n b = o := ⟨_, rfl⟩
  unfold Ext
  rw [eo]
  have f1 := F.f1
  have f2 := F.f2
  refine ⟨fun i j => ?_, fun i hi j hj h => ?_, fun i hi => ?_, fun j hj => ?_⟩
  · unfold exX
    split
    · split
      · rename_i z
        have := F.r i z
        omega
      · omega
    · split
      · split
        · rename_i z
          have := F.c j z
          omega
        · omega
      · exact F.nn i j
  · unfold exC
    by_cases z : (0 < o ∧ j = n) ∨ (o < 0 ∧ i = m)
    · rw [if_pos z]; rfl
    · rw [if_neg z]
      unfold exm at hi
      unfold exn at hj
      have hi' : i < m := by split at hi <;> omega
      have hj' : j < n := by split at hj <;> omega
      rw [exX_in hi' hj'] at h
      exact F.sup i hi' j hj' h
  · unfold exn exS
    by_cases h2 : 0 < o
    · rw [if_pos h2, if_neg (by omega)]
      have him : i < m := by unfold exm at hi; rw [if_neg (by omega)] at hi; exact hi
      show S n (exX m n o a b x i) + exX m n o a b x i n = a i
      have e1 : S n (exX m n o a b x i) = row n x i := S_congr fun j hj => exX_in him hj
      have e2 : exX m n o a b x i n = a i - row n x i := by unfold exX; rw [if_pos ⟨h2, rfl⟩, if_pos him]
      rw [e1, e2]; omega
    · rw [if_neg h2]
      by_cases z : o < 0 ∧ i = m
      · rw [if_pos z]
        obtain ⟨z1, rfl⟩ := z
        have e1 : row n (exX i n o a b x) i = S n fun j => b j - col i x j := S_congr fun j hj => by
          unfold exX; rw [if_neg (by omega), if_pos ⟨z1, rfl⟩, if_pos hj]
        rw [e1, S_sub, ← total_col, total_row, S_congr (f1 (by omega))]
        omega
      · rw [if_neg z]
        have him : i < m := by unfold exm at hi; split at hi <;> omega
        rw [row_congr (y := x) fun j hj => exX_in him hj]
        by_cases z2 : o < 0
        · exact f1 (by omega) i him
        · refine S_exact F.r ?_ i him
          have := S_congr (f2 (by omega))
          have e3 : S m (row n x) = S n (col m x) := by rw [← total_col]; exact (total_row m n x).symm
          have e4 : S n (fun j => col m x j) = S n b := this
          have e5 : S n (col m x) = S n b := this
          rw [e3, e5]; omega
  · unfold exm exT
    by_cases h2 : o < 0
    · rw [if_pos h2, if_neg (by omega)]
      have hjn : j < n := by unfold exn at hj; rw [if_neg (by omega)] at hj; exact hj
      show S m (fun i => exX m n o a b x i j) + exX m n o a b x m j = b j
      have e1 : S m (fun i => exX m n o a b x i j) = col m x j := S_congr fun i hi => exX_in hi hjn
      have e2 : exX m n o a b x m j = b j - col m x j := by unfold exX; rw [if_neg (by omega), if_pos ⟨h2, rfl⟩, if_pos hjn]
      rw [e1, e2]; omega
    · rw [if_neg h2]
      by_cases z : 0 < o ∧ j = n
      · rw [if_pos z]
        obtain ⟨z1, rfl⟩ := z
        have e1 : col m (exX m j o a b x) j = S m fun i => a i - row j x i := S_congr fun i hi => by
          unfold exX; rw [if_pos ⟨z1, rfl⟩, if_pos hi]
        rw [e1, S_sub, ← total_row, total_col, S_congr (f2 (by omega))]
        omega
      · rw [if_neg z]
        have hjn : j < n := by unfold exn at hj; split at hj <;> omega
        rw [col_congr (y := x) fun i hi => exX_in hi hjn]
        exact f2 (by omega) j hjn
theorem ext_cut {m n : Nat} {c : Nat → Nat → Option Int} {a b : Nat → Int} {A B : Prop} {f : Nat → Nat → Int} (F : Ext m n c a b f) (hB : S m a < S n b → B) (hA : S n b < S m a → A) :
    ∃ g : Nat → Nat → Int, (∀ i j, 0 ≤ g i j) ∧ (∀ i j, (i, j) ∉ cells m n c → g i j = 0) ∧ (∀ i, i < m → row n g i ≤ a i) ∧ (∀ j, j < n → col m g j ≤ b j) ∧ Tight m n A B a b g ∧ dot m n (vp c) g = dot m n (vp c) f := by
  obtain ⟨o, eo⟩ : ∃ o, S m a - S n b = o := ⟨_, rfl⟩
  unfold Ext at F
  rw [eo] at F
  obtain ⟨g, eg⟩ : ∃ g : Nat → Nat → Int, g = fun i j => if i < m ∧ j < n ∧ (c i j).isSome = true then f i j else 0 := ⟨_, rfl⟩
  obtain ⟨m1, m2⟩ : m ≤ exm m o ∧ n ≤ exn n o := by unfold exm exn; exact ⟨by split <;> omega, by split <;> omega⟩
  have gin : ∀ i, i < m → ∀ j, j < n → g i j = f i j := fun i hi j hj => by
    rw [eg]
    show (if i < m ∧ j < n ∧ (c i j).isSome = true then f i j else 0) = f i j
    by_cases z : (c i j).isSome = true
    · rw [if_pos ⟨hi, hj, z⟩]
    · rw [if_neg fun y => z y.2.2]
      have h1 := F.nn i j
      have h2 : ¬ 0 < f i j := fun y => by
        have := F.sup i (by omega) j (by omega) y
        unfold exC at this
        rw [if_neg (by omega)] at this
        exact z this
      omega
  have er : ∀ i, i < m → row n g i = row n f i := fun i hi => row_congr fun j hj => gin i hi j hj
  have ec : ∀ j, j < n → col m g j = col m f j := fun j hj => col_congr fun i hi => gin i hi j hj
  have r0 : ¬ 0 < o → ∀ i, i < m → row n g i = a i := fun h i hi => by
    have := F.r i (by omega)
    unfold exn exS at this
    rw [if_neg h, if_neg (by omega)] at this
    rw [er i hi, this]
  have r1 : 0 < o → ∀ i, i < m → row n g i ≤ a i := fun h i hi => by
    have := F.r i (by omega)
    unfold exn exS at this
    rw [if_pos h, if_neg (by omega)] at this
    have t : row n f i + f i n = a i := this
    have := F.nn i n
    rw [er i hi]; omega
  have c0 : ¬ o < 0 → ∀ j, j < n → col m g j = b j := fun h j hj => by
    have := F.c j (by omega)
    unfold exm exT at this
    rw [if_neg h, if_neg (by omega)] at this
    rw [ec j hj, this]
  have c1 : o < 0 → ∀ j, j < n → col m g j ≤ b j := fun h j hj => by
    have := F.c j (by omega)
    unfold exm exT at this
    rw [if_pos h, if_neg (by omega)] at this
    have t : col m f j + f m j = b j := this
    have := F.nn m j
    rw [ec j hj]; omega
  refine ⟨g, fun i j => ?_, fun i j h => ?_, fun i hi => ?_, fun j hj => ?_, ?_, ?_⟩
  · rw [eg]
    have := F.nn i j
    show 0 ≤ if i < m ∧ j < n ∧ (c i j).isSome = true then f i j else 0
    split <;> omega
  · rw [eg]
    exact if_neg fun z => h (mem_cells.mpr z)
  · by_cases h : 0 < o
    · exact r1 h i hi
    · exact Int.le_of_eq (r0 h i hi)
  · by_cases h : o < 0
    · exact c1 h j hj
    · exact Int.le_of_eq (c0 h j hj)
  · by_cases h : o < 0
    · exact .inr (.inr ⟨hB (by omega), r0 (by omega)⟩)
    · by_cases h2 : 0 < o
      · exact .inr (.inl ⟨hA (by omega), c0 h⟩)
      · exact .inl ⟨r0 h2, c0 h⟩
  · exact dot_congr fun i hi j hj => by rw [gin i hi j hj]
theorem lcost_one (L : List Pr) (f : Pr → Int) : lcost (fun _ _ => 1) (L.map fun q => (q, f q)) = (L.map f).sum := by
  induction L with
  | nil => rfl
  | cons q L ih =>
    show 1 * f q + lcost _ (L.map _) = _
    rw [ih, List.map_cons, List.sum_cons, Int.one_mul]
theorem FitK.nonneg {m n : Nat} {c : Nat → Nat → Option Int} {z : Str} {a b : Nat → Int} {x : Nat → Nat → Int} (F : FitK m n c z a b x) : nonneg m n a b :=
  ⟨fun i hi => Int.le_trans (row_nn F.nn i) (F.r i hi), fun j hj => Int.le_trans (col_nn F.nn j) (F.c j hj)⟩
theorem sup_of {m n : Nat} {c : Nat → Nat → Option Int} {x : Nat → Nat → Int} (h : ∀ i j, (i, j) ∉ cells m n c → x i j = 0) : ∀ i, i < m → ∀ j, j < n → 0 < x i j → (c i j).isSome = true := fun i hi j hj hx => by
  by_cases z : (c i j).isSome = true
  · exact z
  · have := h i j fun y => z (mem_cells.mp y).2.2
    omega
theorem FitK.fit {m n : Nat} {c : Nat → Nat → Option Int} {z : Str} {a b : Nat → Int} {x : Nat → Nat → Int} (F : FitK m n c z a b x) : Fit m n c a b x :=
  fit_of_total F.nn (sup_of F.sup) F.r F.c (tight_total F.r F.c F.t).1
theorem keeps_cost {m n : Nat} {c : Nat → Nat → Option Int} {z : Str} {a b : Nat → Int} {x w : Nat → Nat → Int} {L : List Pr} {f : Pr → Int} (hw : Whole m n c L) (hn : NoFault m n c z L) (F : FitK m n c z a b x) (E : Ext m n c a b w) (hb : Best m n c a b w)
    (hs : serve L a b = L.map fun q => (q, f q)) : ((cells m n c).map fun q => vl c q * f q).sum = costS c m n (fun q => w q.1 q.2) ∧ (L.map f).sum = lesser (S m a) (S n b) ∧ (∀ q ∈ cells m n c, 0 ≤ f q ∧ f q ≤ a q.1) := by
  have hnd : L.Nodup := (List.Perm.nodup_iff hw).mpr (nodup_cells m n c)
  have hin : ∀ q ∈ L, q.1 < m ∧ q.2 < n ∧ (c q.1 q.2).isSome = true := fun q hq => hw.mem hq
  obtain ⟨t1, t2, t3⟩ := tight_total F.r F.c F.t
  obtain ⟨y, y1, y2, y3, y4, y5, y6⟩ := serve_table L a b F.nonneg hnd fun q hq => ⟨(hin q hq).1, (hin q hq).2.1⟩
  have ef : ∀ q ∈ cells m n c, f q = y q.1 q.2 := fun q hq => by
    have hq' : q ∈ L := (List.Perm.mem_iff hw).mpr hq
    have m1 : (q, f q) ∈ L.map fun q => (q, f q) := List.mem_map_of_mem hq'
    rw [← hs, y6] at m1
    obtain ⟨r, _, er⟩ := List.mem_map.mp m1
    injection er with z1 z2
    rw [z1] at z2
    exact z2.symm
  have ok := okl_of L hin hn
  have gr : ∀ x : Nat → Nat → Int, (∀ i j, 0 ≤ x i j) → (∀ i j, (i, j) ∉ cells m n c → x i j = 0) → (∀ i, i < m → row n x i ≤ a i) → (∀ j, j < n → col m x j ≤ b j) → Tight m n (cA z = true) (cB z = true) a b x → lcost (vp c) (serve L a b) ≤ dot m n (vp c) x ∧ lcost (fun _ _ => 1) (serve L a b) = total m n x := fun x x1 x2 x3 x4 x5 =>
    greedy L a b x hnd hin (fun k l hk hl h h2 => absurd ((List.Perm.mem_iff hw).mpr (mem_cells.mpr ⟨hk, hl, h⟩)) h2) ok ⟨x1, fun i j h => x2 i j fun h2 => h ((List.Perm.mem_iff hw).mpr h2), x3, x4⟩ x5
  obtain ⟨g, g1, g2, g3, g4, g5, g6⟩ := ext_cut (A := cA z = true) (B := cB z = true) E t2 t3
  have a1 := (gr g g1 g2 g3 g4 g5).1
  have a2 := (gr x F.nn F.sup F.r F.c F.t).2
  have ty : total m n y = lesser (S m a) (S n b) := by
    rw [← t1, ← a2]
    exact y5 _
  have y2' : ∀ i j, (i, j) ∉ cells m n c → y i j = 0 := fun i j h => y2 i j fun h2 => h ((List.Perm.mem_iff hw).mp h2)
  have Fy := fit_of_total (c := c) y1 (sup_of y2') y3 y4 ty
  have b1 := hb _ (ext_of Fy)
  rw [ext_dot, ext_dot] at b1
  have b2 : dot m n (vp c) (exX m n (S m a - S n b) a b y) = dot m n (vp c) y := dot_congr fun i hi j hj => by rw [exX_in hi hj]
  rw [b2] at b1
  have b3 := y5 (vp c)
  refine ⟨?_, ?_, fun q hq => ?_⟩
  · rw [costS_dot (fun i j => by have := E.nn i j; exact this), List.map_congr_left (g := fun q => vl c q * y q.1 q.2) fun q hq => by rw [ef q hq], cells_dot]
    omega
  · rw [← t1, ← a2, hs, lcost_one]
  · obtain ⟨c1, c2, c3⟩ := mem_cells.mp hq
    rw [ef q hq]
    refine ⟨y1 _ _, Int.le_trans ?_ (y3 _ c1)⟩
    exact S_ge_one (fun j _ => y1 q.1 j) c2
end K78
end
section
set_option Elab.async false
set_option linter.all false
set_option maxRecDepth 100000
set_option maxHeartbeats 4000000
namespace K78
open PySem PySem.Spec PyProof.Rows L2 He StX
theorem sv_same {K : PySem.W.Frag} {H H' : Hp} {p : Addr} {m n : Nat} {c : Nat → Nat → Option Int} {f : Pr → Int} (h : SvAt K H p m n c f) (s : Same H H') : SvAt K H' p m n c f := by
  obtain ⟨dx, tb, a, d, hp, ht, hf⟩ := h
  exact ⟨dx, tb, a, d, s _ _ hp, ht.same s, s _ _ hf⟩
section
variable {P : Program} {w : World} {K : PySem.W.Frag} {mg : Str → Option Value} {base : Heap}
theorem ints_dpAll {H : Hp} : ∀ (L : List Int), DpAll K H (L.map V.int) (L.map PyData.int)
  | [] => .nil
  | q :: L => .cons (.int q) (ints_dpAll L)
theorem ints_dp {H : Hp} {a : Addr} {L : List Int} (o : H a = some (.lst (L.map V.int))) : Dp K H (.ref a) (.list (L.map PyData.int)) := .lst (SqL.of o) (ints_dpAll L)
theorem ints_shaped (L : List Int) : SeqAt.shaped (.list (L.map PyData.int)) = true := by
  have h : PyData.canLayAll0 (L.map PyData.int) = true ∧ PyData.depthAll (L.map PyData.int) ≤ 1 := by
    induction L with
    | nil => exact ⟨rfl, Nat.zero_le _⟩
    | cons q L ih =>
      refine ⟨?_, ?_⟩
      · show (PyData.canLay0 (.int q) && PyData.canLayAll0 (L.map PyData.int)) = true
        rw [ih.1]; rfl
      · show max (PyData.depth (.int q)) (PyData.depthAll (L.map PyData.int)) ≤ 1
        have : PyData.depth (.int q) = 0 := rfl
        have := ih.2
        omega
  unfold SeqAt.shaped
  rw [Bool.and_eq_true]
  refine ⟨?_, decide_eq_true ?_⟩
  · show PyData.canLayAll0 _ = true
    exact h.1
  · show PyData.depthAll _ + 1 ≤ 64
    have := h.2
    omega
theorem ints_eqv (L : List Int) : PyData.eqv (.list (L.map PyData.int)) (.list (L.map PyData.int)) = true := by
  refine PySem.SeqAt.eqv_refl _ ?_
  have := ints_shaped L
  unfold SeqAt.shaped at this
  exact (Bool.and_eq_true_iff.mp this).1
theorem alike_of {L Lb : List Pr} {f g : Pr → Int} (hl : L.length = Lb.length) (h : ∀ q ∈ L, q ∈ Lb ∧ f q = g q) : alike (dm L fun q => .int (f q)) (dm Lb fun q => .int (g q)) = true := by
  unfold alike
  rw [Bool.and_eq_true]
  refine ⟨by rw [dm_len, dm_len, hl]; simp, ?_⟩
  rw [List.all_eq_true]
  intro p hp
  obtain ⟨q, hq, rfl⟩ := List.mem_map.mp hp
  obtain ⟨h1, h2⟩ := h q hq
  show (match valV (dm Lb fun q => .int (g q)) (ky q) with
    | some v => intV (.int (f q)) == intV v
    | none => false) = true
  rw [dm_val, if_pos h1, h2]
  simp
theorem dm_ints {L : List Pr} {f : Pr → Int} : ∀ p ∈ dm L (fun q => .int (f q)), ∃ i, p.2 = V.int i := fun p hp => by
  obtain ⟨q, _, rfl⟩ := List.mem_map.mp hp
  exact ⟨_, rfl⟩
def fnr_Server__call__ (E : TX K mg) := fnR_of (ok_Server__call__ (P := P) (w := w) (base := base) E) (b_Server__call__ E)
def sp__law_keeps (K : PySem.W.Frag) : Sp := fun vs H Q _ => ∃ (t g W ka S I : Addr) (m n : Nat) (c : Nat → Nat → Option Int) (z : Str) (ps : List Addr) (L1 : List Pr) (ks : List Nat) (os : List (List Pr)) (a b : Nat → Int) (x : Nat → Nat → Int),
  vs = [.ref t, .ref g, .ref W, .ref ka, .ref S, .ref I] ∧ TabAt K H t m n c ∧ GridAt H g m n c ∧ H W = some (.lst (ps.map V.ref)) ∧ OrdsAt K H ps os ∧ H ka = some (.lst (ks.map nv)) ∧ Ways (NoFault m n c z) L1 ks os ∧ (∀ L ∈ os, Whole m n c L) ∧ dim m n ∧ BdG m n c ∧ IntsAt H S m a ∧ IntsAt H I n b ∧ FitK m n c z a b x ∧
  ∀ H', Same H H' → Q (.bl true) H'
theorem ok__law_keeps (E : TX K mg) : FnOk P w K mg base CX0 10 (a__law_keeps K) (fdOf K (a__law_keeps K)) P__law_keeps (sp__law_keeps K) := by
  refine (f__law_keeps E).ok sc__law_keeps (fun vs H Q E' h => ?_) (fun cdv A outer s H vs Q E' hr h => ?_)
  · obtain ⟨_, _, _, _, _, _, _, _, _, _, _, _, _, _, _, _, _, rfl, _⟩ := h; rfl
  · obtain ⟨t, g, W, ka, S0, I, m, n, c, z, ps, L1, ks, os, a, b, x, rfl, ht, hg, hW, hps, hka, wy, hwh, hd, hbd, hS, hI, F, k⟩ := h
    refine ⟨_, PSs.nox (pss_cons (ps_set (i := 6) sc__law_keeps.nd rfl (Or.inl rfl) (pe_make (mk_Amounts (K := K) E) (ok_Amounts__init__ (K := K) E) (hr.mono (by decide)) rfl (g_Amounts (K := K) E) (b_Amounts__init__ (K := K) E) .nil pass0 (pa_cons (pe_callTy call_list_of (by rfl) (fr_list (K := K) E) (by decide +kernel) (pa_cons (pv 4) pa_nil)) (pa_cons (pe_callTy call_list_of (by rfl) (fr_list (K := K) E) (by decide +kernel) (pa_cons (pv 5) pa_nil)) pa_nil))))
    (pss_cons (ps_set (i := 7) sc__law_keeps.nd rfl (Or.inl rfl) (pe_call (ok_least_cost (K := K) E) (hr.mono (by decide)) rfl (g_least_cost (K := K) E) (k_least_cost (K := K) E) (b_least_cost (K := K) E) .nil pass0 (pa_cons (pv 0) (pa_cons (pv 6) pa_nil))))
    (pss_cons (ps_set (i := 8) sc__law_keeps.nd rfl (Or.inl rfl) (pe_callB (cr_sum rfl) (by rfl) (fr_sum (K := K) E) (by decide +kernel) (pa_cons (pv 4) pa_nil)))
    (pss_cons (ps_if (pt_cmpR op_lt (pe_callB (cr_sum rfl) (by rfl) (fr_sum (K := K) E) (by decide +kernel) (pa_cons (pv 5) pa_nil)) (pv 8) (nomark _)) (pss_one (ps_set (i := 8) sc__law_keeps.nd rfl (Or.inl rfl) (pe_callB (cr_sum rfl) (by rfl) (fr_sum (K := K) E) (by decide +kernel) (pa_cons (pv 5) pa_nil)))) pss_nil)
    (pss_cons (ps_set (i := 9) sc__law_keeps.nd rfl (Or.inl rfl) pe_non)
    (pss_cons (ps_for PassesOwn.never rfl (pi_enum rfl (fr_enumerate (K := K) E) (pa_cons (pv 2) pa_nil)) (pg_tup rfl (pgs_cons (pg_name (i := 10) sc__law_keeps.nd rfl (Or.inl rfl)) (pgs_cons (pg_name (i := 11) sc__law_keeps.nd rfl (Or.inl rfl)) pgs_nil)))
    (pss_cons (ps_set (i := 12) sc__law_keeps.nd rfl (Or.inl rfl) (pe_meth0 (pv 11) (cl_Order (K := K) E) (m_Order_pairs (K := K) E) (ok_Order_pairs (K := K) E) (hr.mono (by decide)) (b_Order_pairs (K := K) E) .nil pass0))
    (pss_cons (ps_set (i := 13) sc__law_keeps.nd rfl (Or.inr rfl) (pe_call (ok__law_serve (K := K) E) (hr.mono (by decide)) rfl (g__law_serve (K := K) E) (k__law_serve (K := K) E) (b__law_serve (K := K) E) .nil pass0 (pa_cons (pv 12) (pa_cons (pv 4) (pa_cons (pv 5) pa_nil)))))
    (pss_cons (ps_set (i := 14) sc__law_keeps.nd rfl (Or.inr rfl) (StX.pe_callO (pe_make (mk_Server (K := K) E) (ok_Server__init__ (K := K) E) (hr.mono (by decide)) rfl (g_Server (K := K) E) (b_Server__init__ (K := K) E) .nil pass0 (pa_cons (pv 0) (pa_cons (pv 11) pa_nil))) (co_Server__call__ (K := K) E) (fnr_Server__call__ (K := K) E) (hr.mono (by decide)) pass0 (pa_cons (pv 6) pa_nil)))
    (pss_cons (ps_setLc (i := 15) (own := [("_law_spot", 16)]) rfl sc__law_keeps.nd rfl rfl (sw_true rfl rfl rfl (by decide +kernel)) (pi_list (pv 12)) (blkOk_by (own := [("_law_spot", 16)]) (N := N__law_keeps) (sc := defScope s__law_keeps) (by decide +kernel)) (fun _ _ _ _ _ => (pg_name (i := 16) sc__law_keeps.nd rfl (Or.inl rfl))) (fun _ _ _ _ _ => pts_nil) (fun _ _ _ _ _ => (pe_getOwn (fn_Serving__getitem__ (K := K) E) (m_Serving__getitem__ (K := K) E) (ok_Serving__getitem__ (K := K) E) (hr.mono (by decide)) (b_Serving__getitem__ (K := K) E) (pv 14) (pv 16))))
    (pss_cons (ps_if (pt_cmpR (op_neD (hu64 hr)) (pv 15) (pe_lc (own := [("_law_spot", 16)]) rfl sc__law_keeps.nd (pi_list (pv 12)) (blkOk_by (own := [("_law_spot", 16)]) (N := N__law_keeps) (sc := defScope s__law_keeps) (by decide +kernel)) (fun _ _ _ _ _ => (pg_name (i := 16) sc__law_keeps.nd rfl (Or.inl rfl))) (fun _ _ _ _ _ => pts_nil) (fun _ _ _ _ _ => (pe_dget (hu_of hr) (pv 13) (pv 16) (fun _ _ => rfl)))) (nomark _)) (pss_one (ps_ret pe_bl)) pss_nil)
    (pss_cons (ps_if (PW.pt (pw_or (pt_cmpR op_ne (pe_call (ok__law_cost_of (K := K) E) (hr.mono (by decide)) rfl (g__law_cost_of (K := K) E) (k__law_cost_of (K := K) E) (b__law_cost_of (K := K) E) .nil pass0 (pa_cons (pv 1) (pa_cons (pv 13) pa_nil))) (pv 7) (nomark _)) (pw_or1 (pt_cmpR op_ne (pe_callB (cr_sum rfl) (by rfl) (fr_sum (K := K) E) (by decide +kernel) (pa_cons (pv 15) pa_nil)) (pv 8) (nomark _))))) (pss_one (ps_ret pe_bl)) pss_nil)
    (pss_cons (ps_if (PW.pt (pw_and (pt_cmpR op_gt (pv 10) pe_int (nomark _)) (pw_and1 (pt_cmpR (op_neT (hu_of hr)) (pv 13) (pv 9) (nomark _))))) (pss_cons (ps_set (i := 17) sc__law_keeps.nd rfl (Or.inl rfl) (pe_ix ix_list (pv 12) (pe_ix ix_list (pv 3) (pe_op op_sub (pv 10) pe_int) (fun _ _ => rfl)) (fun _ _ => rfl)))
    (pss_cons (ps_set (i := 18) sc__law_keeps.nd rfl (Or.inl rfl) (pe_ix ix_list (pv 12) (pe_op op_add (pe_ix ix_list (pv 3) (pe_op op_sub (pv 10) pe_int) (fun _ _ => rfl)) pe_int) (fun _ _ => rfl)))
    (pss_one (ps_if (PW.pt (pw_and (pt_cmpR op_ne (pe_ix ix_tup (pv 17) pe_int (fun _ _ => rfl)) (pe_ix ix_tup (pv 18) pe_int (fun _ _ => rfl)) (nomark _)) (pw_and1 (pt_cmpR op_ne (pe_ix ix_tup (pv 17) pe_int (fun _ _ => rfl)) (pe_ix ix_tup (pv 18) pe_int (fun _ _ => rfl)) (nomark _))))) (pss_one (ps_ret pe_bl)) pss_nil)))) pss_nil)
    (pss_one (ps_set (i := 9) sc__law_keeps.nd rfl (Or.inl rfl) (pv 13)))))))))))
    (pss_one (ps_ret pe_bl)))))))), ?_⟩
    refine ⟨_, rfl, S0, _, rfl, .inl (SqL.of hS), fun A hA => ?_⟩
    have s1 := Same.new hA (o := .lst (rg m fun i => V.int (a i)))
    refine ⟨_, rfl, I, _, rfl, .inl (SqL.of (s1 _ _ hI)), fun B hB => ?_⟩
    have s2 := Same.new0 s1 hB (o := .lst (rg n fun i => V.int (b i)))
    have nAB : A ≠ B := ne_of_none upd_same hB
    have oA : IntsAt (upd (upd H A (.lst (rg m fun i => V.int (a i)))) B (.lst (rg n fun i => V.int (b i)))) A m a := (upd_ne nAB).trans upd_same
    have oB : IntsAt (upd (upd H A (.lst (rg m fun i => V.int (a i)))) B (.lst (rg n fun i => V.int (b i)))) B n b := upd_same
    refine fun am dz nz ndz nez => ?_
    have s3 := Same.new0 (Same.new0 s2 ndz (o := .own am)) (a := am) (o := .ins (c_Amounts K) dz []) (by rw [upd_ne nez.symm]; exact nz)
    have sm3 := Same.new0 (Same.new0 (Same.refl _) ndz (o := .own am)) (a := am) (o := .ins (c_Amounts K) dz []) (by rw [upd_ne nez.symm]; exact nz)
    refine ⟨am, dz, A, B, m, n, a, b, rfl, upd_same, sm3 _ _ oA, sm3 _ _ oB, hd, F.nonneg, fun H4 sx ham => ⟨rfl, ?_⟩⟩
    have s4 : Same H H4 := s2.trans (Same.made nz ndz sx)
    refine ⟨_, rfl, _, rfl, t, am, m, n, a, b, c, x, exX m n (S m a - S n b) a b x, rfl, ham, ht.same s4, hd, F.nonneg, F.fit, ext_of F.fit, fun q hq => ?_, F.ba, fun H5 w0 s5 hE hBst => ?_⟩
    · obtain ⟨c1, c2, c3⟩ := mem_cells.mp hq
      exact hbd _ c1 _ c2 _ (by unfold vl; cases e : c q.1 q.2 with
        | none => rw [e] at c3; cases c3
        | some p => rfl)
    obtain ⟨due, edue⟩ : ∃ due, costS c m n (fun q => w0 q.1 q.2) = due := ⟨_, rfl⟩
    rw [edue]
    have s05 := s4.trans s5
    have ham5 := ham.same s5
    have eSa : ((List.range m).map a).sum = S m a := sm_S m a
    have eSb : ((List.range n).map b).sum = S n b := sm_S n b
    refine ⟨_, rfl, S0, _, rfl, ints_seq (s05 _ _ hS), ?_⟩
    rw [eSa]
    dsimp only
    refine tifs_pp (decide (S n b < S m a)) (fun Kk hK => ⟨_, rfl, I, _, rfl, ints_seq (s05 _ _ hI), ?_⟩) (fun σ H' => σ = [some (.ref t), some (.ref g), some (.ref W), some (.ref ka), some (.ref S0), some (.ref I), some (.ref am), some (.int due), some (.int (lesser (S m a) (S n b))), none, none, none, none, none, none, none, none, none, none] ∧ H' = H5)
      (fun hb rest => ⟨_, rfl, I, _, rfl, ints_seq (s05 _ _ hI), rest _ _ ⟨?_, rfl⟩⟩) (fun hb rest => rest _ _ ⟨?_, rfl⟩) ?_
    · rw [eSb]; exact ⟨_, rfl, _, _, rfl, rfl, _, rfl, hK⟩
    · rw [eSb]; unfold lesser; rw [if_pos (of_decide_eq_true hb)]; rfl
    · unfold lesser; rw [if_neg (of_decide_eq_false hb)]; rfl
    rintro σ H5' ⟨rfl, rfl⟩
    refine ⟨_, rfl, W, _, rfl, SqL.of (s05 _ _ hW), ?_⟩
    refine for_it (walk_enum (xs := ps.map V.ref)) (fun i σ H' => ∃ (v9 v10 v11 v12 v13 v14 v15 v17 v18 : Option V), σ = [some (.ref t), some (.ref g), some (.ref W), some (.ref ka), some (.ref S0), some (.ref I), some (.ref am), some (.int due), some (.int (lesser (S m a) (S n b))), v9, v10, v11, v12, v13, v14, v15, none, v17, v18] ∧ Same H5' H' ∧
        ∀ i', i = i' + 1 → ∃ (bd : Addr) (Lb : List Pr) (fb : Pr → Int), v9 = some (.ref bd) ∧ os[i']? = some Lb ∧ DmAt H' bd Lb (fun q => .int (fb q)) ∧ serve Lb a b = Lb.map fun q => (q, fb q))
      ⟨some .non, none, none, none, none, none, none, none, none, rfl, Same.refl _, fun i' e => by omega⟩ (fun i σ H' _ ⟨_, _, _, _, _, _, _, _, _, _, s, _⟩ => SqL.of (s _ _ (s05 _ _ hW))) ?_ ?_
    · rintro i xv σ H' H'' hi ⟨v9, v10, v11, v12, v13, v14, v15, v17, v18, rfl, s, hbef⟩ ⟨T, y1, y2, rfl, hT, rfl, e1, e2⟩
      cases e1
      obtain ⟨p, ep, rfl⟩ := map_ref_at e2
      obtain ⟨L, eL⟩ : ∃ L, os[i]? = some L := ⟨_, List.getElem?_eq_getElem (by rw [← hps.1]; exact (List.getElem?_eq_some_iff.mp ep).1)⟩
      have hLo := List.mem_of_getElem? eL
      have hw := hwh L hLo
      have hnf := wy.good L hLo
      have hor := hps.2 i p L ep eL
      obtain ⟨dx, lo, so, hpo, _⟩ := id hor
      have sT := Same.new0 s hT (o := .tup [.int (i : Int), .ref p])
      have sT0 := s05.trans sT
      have sT' := sT
      refine ⟨_, _, rfl, .inl (.inl upd_same), rfl, _, _, rfl, _, _, rfl, rfl, ?_⟩
      have h64 := cells64 c hd
      have hlw : L.length = (cells m n c).length := List.Perm.length_eq hw
      have hnd : L.Nodup := (List.Perm.nodup_iff hw).mpr (nodup_cells m n c)
      refine ⟨_, rfl, p, dx, _, rfl, sT0 _ _ hpo, rfl, p, L, rfl, hor.same sT0, fun H6 lst s6 hl ⟨ts, ol, pts⟩ => ?_⟩
      have s06 := sT0.trans s6
      refine ⟨_, rfl, _, rfl, _, rfl, lst, S0, I, m, n, a, b, L, rfl, ⟨ts, ol, pts⟩, s06 _ _ hS, s06 _ _ hI, by have := hd.2.1; omega, by have := hd.2.2.2; omega, by omega, hnd, fun q hq => ⟨(hw.mem hq).1, (hw.mem hq).2.1⟩, fun H7 mv f s7 hmv hdm hsv => ?_⟩
      have s07 := s06.trans s7
      refine ⟨_, rfl, _, rfl, fun z dz nz ndz nez => ?_⟩
      have z3 := Same.new0 (Same.new0 (Same.refl _) ndz (o := .own z)) (a := z) (o := .ins (c_Server K) dz []) (by rw [upd_ne nez.symm]; exact nz)
      have s7z := s07.trans z3
      refine ⟨z, dz, t, p, m, n, c, L, rfl, upd_same, ht.same s7z, hor.same s7z, hd, hw, fun H8 sx oz => ⟨rfl, ?_⟩⟩
      have s8 : Same H7 H8 := Same.made nz ndz sx
      have s08 := s07.trans s8
      refine ⟨z, rfl, _, rfl, .inr ⟨_, _, oz⟩, z, dz, t, p, am, m, n, c, L, a, b, rfl, oz, ht.same s08, hor.same s08, hd, hw, ?_, fun H9 sv f2 s9 hsv0 hSv hsv2 => ?_⟩
      · exact (ham5.same (Same.refl _)).same (((s.trans (Same.new hT)).trans s6).trans (s7.trans s8))
      have s09 := s08.trans s9
      have s69 := s7.trans (s8.trans s9)
      have s79 := s8.trans s9
      have ef : ∀ q ∈ L, f2 q = f q := fun q hq => by
        have m1 : (q, f2 q) ∈ L.map fun q => (q, f2 q) := List.mem_map_of_mem hq
        rw [← hsv2, hsv] at m1
        obtain ⟨r, _, er⟩ := List.mem_map.mp m1
        injection er with z1 z2
        rw [z1] at z2
        exact z2.symm
      refine ⟨_, rfl, lst, rfl, ⟨_, SqL.of (s69 _ _ ol)⟩, fun D hD => ?_⟩
      refine walk_go (walk_list (xs := ts.map V.ref)) (fun j H' => Same H9 H' ∧ H' D = some (.lst (((L.take j).map f).map V.int))) ⟨Same.new hD, upd_same⟩ (fun j H' _ ⟨s, _⟩ => SqL.of (s _ _ (s69 _ _ ol))) ?_ ?_
      · rintro j x Ha Hb hj ⟨sa, o⟩ ⟨rfl, hx⟩
        obtain ⟨u, eu, rfl⟩ := map_ref_at hx
        obtain ⟨q, eq, hq⟩ := pts.of eu
        have hqL := List.mem_of_getElem? eq
        obtain ⟨ds, tb, am2, dd, hps2, htt2, hff2⟩ := id hSv
        refine ⟨rfl, _, rfl, _, rfl, sv, ds, _, rfl, sa _ _ hps2, sv, u, m, n, c, f2, q, rfl, sv_same hSv sa, sa _ _ (s69 _ _ hq), (List.Perm.mem_iff hw).mp hqL, _, o, ?_, Same.up sa hD, ?_⟩
        · rw [List.length_map, List.length_map, List.length_take]
          exact Nat.lt_of_le_of_lt (show min j L.length ≤ 64 by omega) (by decide)
        · rw [upd_same, take_snoc eq, List.map_append, List.map_append, ef q hqL]; rfl
      rintro Ha ⟨sa, oD⟩
      rw [List.length_map, pts.1, List.take_length] at oD
      have s0a := s09.trans sa
      have s6a := s69.trans sa
      have s7a := s79.trans sa
      dsimp only
      refine ⟨_, rfl, _, rfl, lst, rfl, ⟨_, SqL.of (s6a _ _ ol)⟩, fun D2 hD2 => ?_⟩
      refine walk_go (walk_list (xs := ts.map V.ref)) (fun j H' => Same Ha H' ∧ H' D2 = some (.lst (((L.take j).map f).map V.int))) ⟨Same.new hD2, upd_same⟩ (fun j H' _ ⟨s, _⟩ => SqL.of (s _ _ (s6a _ _ ol))) ?_ ?_
      · rintro j x Hb Hc hj ⟨sb, o⟩ ⟨rfl, hx⟩
        obtain ⟨u, eu, rfl⟩ := map_ref_at hx
        obtain ⟨q, eq, hq⟩ := pts.of eu
        have hqL := List.mem_of_getElem? eq
        refine ⟨rfl, _, rfl, _, rfl, mv, _, rfl, dm_get_in (sb _ _ (s7a _ _ hdm)) (sb _ _ (s6a _ _ hq)) hqL, _, o, ?_, Same.up sb hD2, ?_⟩
        · rw [List.length_map, List.length_map, List.length_take]
          exact Nat.lt_of_le_of_lt (show min j L.length ≤ 64 by omega) (by decide)
        · rw [upd_same, take_snoc eq, List.map_append, List.map_append]; rfl
      rintro Hb ⟨sb, oD2⟩
      rw [List.length_map, pts.1, List.take_length] at oD2
      refine ⟨_, _, ints_dp (sb _ _ oD), ints_dp oD2, ints_shaped _, ints_shaped _, ?_⟩
      rw [ints_eqv]
      have s0b := s0a.trans sb
      refine ⟨_, rfl, ?_⟩
      obtain ⟨k1, k2, k3⟩ := keeps_cost hw hnf F hE hBst hsv
      refine ⟨_, rfl, _, rfl, g, mv, m, n, c, L, f, rfl, hg.same s0b, hd, sb _ _ (s7a _ _ hdm), fun q hq => ?_, fun Hc sc => ?_⟩
      · obtain ⟨c1, c2, c3⟩ := mem_cells.mp hq
        obtain ⟨f0, f1⟩ := k3 q hq
        refine ⟨(List.Perm.mem_iff hw).mpr hq, hbd _ c1 _ c2 _ (by unfold vl; cases e : c q.1 q.2 with
          | none => rw [e] at c3; cases c3
          | some p => rfl), ?_⟩
        have h1 : (a q.1).natAbs < 2 ^ 1000 := F.ba _ c1
        show (f q).natAbs < 2 ^ 1000
        generalize (2 : Nat) ^ 1000 = Z at *
        omega
      rw [k1, edue]
      have s0c := s0b.trans sc
      have dne : ∀ i : Int, (!decide (V.int i = V.int i)) = false := fun i => by rw [decide_eq_true rfl]; rfl
      refine ⟨_, rfl, rfl, _, rfl, ?_⟩
      rw [dne]
      refine ⟨_, rfl, D, _, rfl, SqL.of (sc _ _ (sb _ _ oD)), ?_⟩
      rw [k2]
      refine ⟨_, rfl, rfl, _, rfl, ?_⟩
      rw [dne]
      have s7c := (s7a.trans sb).trans sc
      have hdmc := s7c _ _ hdm
      have nxt : ∀ (v17 v18 : Option V) (σ' : L2.St), σ' = [some (.ref t), some (.ref g), some (.ref W), some (.ref ka), some (.ref S0), some (.ref I), some (.ref am), some (.int due), some (.int (lesser (S m a) (S n b))), some (.ref mv), some (.int (i : Int)), some (.ref p), some (.ref lst), some (.ref mv), some (.ref sv), some (.ref D), none, v17, v18] →
          ∃ (v9 v10 v11 v12 v13 v14 v15 v17 v18 : Option V), σ' = [some (.ref t), some (.ref g), some (.ref W), some (.ref ka), some (.ref S0), some (.ref I), some (.ref am), some (.int due), some (.int (lesser (S m a) (S n b))), v9, v10, v11, v12, v13, v14, v15, none, v17, v18] ∧ Same H5' Hc ∧
        ∀ i', i + 1 = i' + 1 → ∃ (bd : Addr) (Lb : List Pr) (fb : Pr → Int), v9 = some (.ref bd) ∧ os[i']? = some Lb ∧ DmAt Hc bd Lb (fun q => .int (fb q)) ∧ serve Lb a b = Lb.map fun q => (q, fb q) := fun v17 v18 σ' e =>
        ⟨_, _, _, _, _, _, _, _, _, e, sT'.trans (s6.trans (s7.trans s7c)), fun i' ei => ⟨mv, L, f, rfl, by rw [← show i = i' by omega]; exact eL, hdmc, hsv⟩⟩
      refine iteF ?_
      unfold tNext
      dsimp only
      cases i with
      | zero =>
        refine tifs_pp false (fun Kk hK => ⟨_, rfl, _, _, rfl, rfl, _, rfl, hK⟩) (fun σ H' => ∃ v17 v18 : Option V, σ = [some (.ref t), some (.ref g), some (.ref W), some (.ref ka), some (.ref S0), some (.ref I), some (.ref am), some (.int due), some (.int (lesser (S m a) (S n b))), v9, some (.int ((0 : Nat) : Int)), some (.ref p), some (.ref lst), some (.ref mv), some (.ref sv), some (.ref D), none, v17, v18] ∧ H' = Hc)
          (fun h _ => by cases h) (fun _ rest => rest _ _ ⟨_, _, rfl, rfl⟩) ?_
        rintro σ H' ⟨w17, w18, rfl, rfl⟩
        exact ⟨_, rfl, nxt _ _ _ rfl⟩
      | succ i' =>
        obtain ⟨bd, Lb, fb, rfl, eLb, hdmb, hsvb⟩ := hbef i' rfl
        have sbc := sT'.trans (s6.trans (s7.trans s7c))
        have hlb : Lb.length = (cells m n c).length := List.Perm.length_eq (hwh Lb (List.mem_of_getElem? eLb))
        have hdmb' : DmAt Hc bd Lb (fun q => .int (fb q)) := (Same.trans (Same.new0 (Same.refl _) hT) (s6.trans (s7.trans s7c))) _ _ hdmb
        obtain ⟨b1, eb1⟩ : ∃ b1, (!alike (dm L fun q => .int (f q)) (dm Lb fun q => .int (fb q))) = b1 := ⟨_, rfl⟩
        refine tifs_pp b1 (fun Kk hK => ⟨_, rfl, _, _, rfl, rfl, _, rfl, ?_⟩) (fun σ H' => ∃ v17 v18 : Option V, σ = [some (.ref t), some (.ref g), some (.ref W), some (.ref ka), some (.ref S0), some (.ref I), some (.ref am), some (.int due), some (.int (lesser (S m a) (S n b))), some (.ref bd), some (.int ((i' + 1 : Nat) : Int)), some (.ref p), some (.ref lst), some (.ref mv), some (.ref sv), some (.ref D), none, v17, v18] ∧ H' = Hc)
          (fun h rest => ?_) (fun _ rest => rest _ _ ⟨_, _, rfl, rfl⟩) ?_
        · rw [show decide ((0 : Int) < ((i' + 1 : Nat) : Int)) = true from decide_eq_true (by omega)]
          refine ⟨_, rfl, _, rfl, mv, bd, _, _, rfl, rfl, hdmc, hdmb', dm_ints, dm_ints, _, rfl, ?_⟩
          rw [eb1]
          exact hK
        · have hil : i' + 1 < os.length := (List.getElem?_eq_some_iff.mp eL).1
          have hik : i' < ks.length := by have := wy.len; omega
          obtain ⟨A1, x1, y1, B1, w1, w3, w2⟩ := wy.step i' _ (List.getElem?_eq_getElem hik)
          rw [eLb] at w1
          rw [eL] at w2
          cases w1
          cases w2
          have eka : atI (ks.map nv) (((i' + 1 : Nat) : Int) - 1) = some (V.int (A1.length : Int)) := by
            rw [show ((i' + 1 : Nat) : Int) - 1 = (i' : Int) by omega]
            refine atI_nat ?_
            rw [List.getElem?_map, List.getElem?_eq_getElem hik, w3]
            rfl
          have e0 : (A1 ++ y1 :: x1 :: B1)[A1.length]? = some y1 := by rw [List.getElem?_append_right (Nat.le_refl _), Nat.sub_self]; rfl
          have e1 : (A1 ++ y1 :: x1 :: B1)[A1.length + 1]? = some x1 := by rw [List.getElem?_append_right (by omega), show A1.length + 1 - A1.length = 1 by omega]; rfl
          obtain ⟨t0, et0, ht0⟩ := pts.at_ e0
          obtain ⟨t1, et1, ht1⟩ := pts.at_ e1
          have s6c := s7.trans s7c
          have em0 : (ts.map V.ref)[A1.length]? = some (V.ref t0) := by rw [List.getElem?_map, et0]; rfl
          have em1 : (ts.map V.ref)[A1.length + 1]? = some (V.ref t1) := by rw [List.getElem?_map, et1]; rfl
          have ix1 : atI (ts.map V.ref) ((A1.length : Int) + 1) = some (V.ref t1) := show atI _ ((A1.length + 1 : Nat) : Int) = _ from atI_nat em1
          refine ⟨_, rfl, _, rfl, _, rfl, _, _, rfl, rfl, ka, _, _, _, rfl, rfl, SqL.of (s0c _ _ hka), eka, lst, _, _, _, rfl, rfl, SqL.of (s6c _ _ ol), atI_nat em0, ?_⟩
          refine ⟨_, rfl, _, rfl, _, rfl, _, _, rfl, rfl, ka, _, _, _, rfl, rfl, SqL.of (s0c _ _ hka), eka, _, _, rfl, rfl, lst, _, _, _, rfl, rfl, SqL.of (s6c _ _ ol), ix1, ?_⟩
          dsimp only
          refine tifs_of false (fun Kk hK => ?_) (fun h => by cases h) fun _ => rest _ _ ⟨_, _, rfl, rfl⟩
          have q0 := s6c _ _ ht0
          have q1 := s6c _ _ ht1
          refine ⟨_, rfl, t0, _, _, _, rfl, rfl, t2_at q0, rfl, _, rfl, t1, _, _, _, rfl, rfl, t2_at q1, rfl, rfl, _, rfl, ?_⟩
          by_cases g1 : y1.1 = x1.1
          · rw [decide_eq_true (show V.int (y1.1 : Int) = V.int (x1.1 : Int) by rw [g1])]
            exact hK
          rw [decide_eq_false (show ¬ V.int (y1.1 : Int) = V.int (x1.1 : Int) from fun z => by injection z with z; omega)]
          refine ⟨_, rfl, t0, _, _, _, rfl, rfl, t2_at q0, rfl, _, rfl, t1, _, _, _, rfl, rfl, t2_at q1, rfl, rfl, _, rfl, ?_⟩
          by_cases g2 : y1.2 = x1.2
          · rw [decide_eq_true (show V.int (y1.2 : Int) = V.int (x1.2 : Int) by rw [g2])]
            exact hK
          exfalso
          have hsw := serve_swap (Ne.symm g1) (Ne.symm g2) hsvb hsv
          have := alike_of (L := A1 ++ y1 :: x1 :: B1) (Lb := A1 ++ x1 :: y1 :: B1) (f := f) (g := fb) (by simp) fun q hq => by
            have hq' : q ∈ A1 ++ x1 :: y1 :: B1 := by
              simp only [List.mem_append, List.mem_cons] at hq ⊢
              rcases hq with hq | hq | hq | hq
              · exact .inl hq
              · exact .inr (.inr (.inl hq))
              · exact .inr (.inl hq)
              · exact .inr (.inr (.inr hq))
            exact ⟨hq', (hsw q hq').symm⟩
          rw [this] at eb1
          rw [← eb1] at h
          cases h
        · rintro σ H' ⟨w17, w18, rfl, rfl⟩
          exact ⟨_, rfl, nxt _ _ _ rfl⟩
    · rintro σ H' ⟨v9, v10, v11, v12, v13, v14, v15, v17, v18, rfl, s, _⟩
      exact k H' (s05.trans s)
end
end K78
end
section
set_option Elab.async false
set_option linter.all false
set_option maxRecDepth 100000
set_option maxHeartbeats 4000000
namespace K78
open PySem PySem.Spec PyProof.Rows L2 He
section
variable {P : Program} {w : World} {K : PySem.W.Frag} {mg : Str → Option Value} {base : Heap}
theorem ways_perm {G : List Pr → Prop} {L1 C : List Pr} {ks : List Nat} {os : List (List Pr)} (wy : Ways G L1 ks os) (h : L1.Perm C) : ∀ (i : Nat) (L : List Pr), os[i]? = some L → L.Perm C
  | 0, L, e => by
    rw [wy.zero] at e
    cases e
    exact h
  | i + 1, L, e => by
    have hil := (List.getElem?_eq_some_iff.mp e).1
    have hik : i < ks.length := by have := wy.len; omega
    obtain ⟨A1, x1, y1, B1, w1, _, w2⟩ := wy.step i _ (List.getElem?_eq_getElem hik)
    rw [e] at w2
    cases w2
    exact (List.Perm.append_left A1 (List.Perm.swap x1 y1 B1)).trans (ways_perm wy h i _ w1)
theorem pds_eqv (L : List Pr) : PyData.eqv (.list (L.map pd)) (.list (L.map pd)) = true := by
  refine PySem.SeqAt.eqv_refl _ ?_
  have := pds_shaped L
  unfold SeqAt.shaped at this
  exact (Bool.and_eq_true_iff.mp this).1
def sp_law (K : PySem.W.Frag) : Sp := fun vs H Q _ => ∃ (a : Addr), vs = [.ref a] ∧ Scr K H a ∧ ∀ H', Q (.bl true) H'
theorem ok_law (E : TX K mg) : FnOk P w K mg base CX0 11 (a_law K) (fdOf K (a_law K)) P_law (sp_law K) := by
  refine (f_law E).ok sc_law (fun vs H Q E' h => ?_) (fun cdv A outer s H vs Q E' hr h => ?_)
  · obtain ⟨_, rfl, _⟩ := h; rfl
  · obtain ⟨a, rfl, ha, k⟩ := h
    refine ⟨_, PSs.nox (pss_cons (ps_set (i := 1) sc_law.nd rfl (Or.inl rfl) (pe_call (ok__law_draws (K := K) E) (hr.mono (by decide)) rfl (g__law_draws (K := K) E) (k__law_draws (K := K) E) (b__law_draws (K := K) E) .nil pass0 (pa_cons (pv 0) (pa_cons pe_int (pa_cons (pe_lst (pa_cons pe_int (pa_cons pe_int (pa_cons pe_int (pa_cons pe_int (pa_cons pe_int pa_nil)))))) pa_nil)))))
    (pss_cons (ps_set (i := 2) sc_law.nd rfl (Or.inl rfl) (pe_ix ix_list (pe_lst (pa_cons pe_str (pa_cons pe_str (pa_cons pe_str (pa_cons pe_str pa_nil))))) (pe_ix ix_list (pv 1) pe_int (fun _ _ => rfl)) (fun _ _ => rfl)))
    (pss_cons (ps_set (i := 3) sc_law.nd rfl (Or.inl rfl) (pe_call (ok__law_table_of (K := K) E) (hr.mono (by decide)) rfl (g__law_table_of (K := K) E) (k__law_table_of (K := K) E) (b__law_table_of (K := K) E) .nil pass0 (pa_cons (pv 0) (pa_cons (pv 2) (pa_cons (pv 1) pa_nil)))))
    (pss_cons (ps_set (i := 4) sc_law.nd rfl (Or.inl rfl) (pe_call (ok__law_needs (K := K) E) (hr.mono (by decide)) rfl (g__law_needs (K := K) E) (k__law_needs (K := K) E) (b__law_needs (K := K) E) .nil pass0 (pa_cons (pv 3) (pa_cons (pv 2) pa_nil))))
    (pss_cons (ps_set (i := 5) sc_law.nd rfl (Or.inl rfl) (pe_call (ok__law_walk (K := K) E) (hr.mono (by decide)) rfl (g__law_walk (K := K) E) (k__law_walk (K := K) E) (b__law_walk (K := K) E) .nil pass0 (pa_cons (pv 4) (pa_cons (pe_call (ok__law_draws (K := K) E) (hr.mono (by decide)) rfl (g__law_draws (K := K) E) (k__law_draws (K := K) E) (b__law_draws (K := K) E) .nil pass0 (pa_cons (pv 0) (pa_cons pe_int (pa_cons (pe_op op_rep (pe_lst (pa_cons pe_int pa_nil)) pe_int) pa_nil)))) pa_nil))))
    (pss_cons (ps_set (i := 6) sc_law.nd rfl (Or.inl rfl) (pe_call (ok__law_walk (K := K) E) (hr.mono (by decide)) rfl (g__law_walk (K := K) E) (k__law_walk (K := K) E) (b__law_walk (K := K) E) .nil pass0 (pa_cons (pv 4) (pa_cons (pe_call (ok__law_draws (K := K) E) (hr.mono (by decide)) rfl (g__law_draws (K := K) E) (k__law_draws (K := K) E) (b__law_draws (K := K) E) .nil pass0 (pa_cons (pv 0) (pa_cons pe_int (pa_cons (pe_op op_rep (pe_lst (pa_cons pe_int pa_nil)) pe_int) pa_nil)))) pa_nil))))
    (pss_cons (ps_set (i := 7) sc_law.nd rfl (Or.inl rfl) (pe_make (mk_Table (K := K) E) (ok_Table__init__ (K := K) E) (hr.mono (by decide)) rfl (g_Table (K := K) E) (b_Table__init__ (K := K) E) .nil pass0 (pa_cons (pe_call (ok__law_copy (K := K) E) (hr.mono (by decide)) rfl (g__law_copy (K := K) E) (k__law_copy (K := K) E) (b__law_copy (K := K) E) .nil pass0 (pa_cons (pv 3) pa_nil)) pa_nil)))
    (pss_cons (ps_set (i := 8) sc_law.nd rfl (Or.inl rfl) (pe_callN (ok_led (K := K) E) (hr.mono (by decide)) rfl (g_led (K := K) E) (k_led (K := K) E) (b_led (K := K) E) pass0 (pa_cons (pv 7) (pa_cons (pe_make (mk_Order (K := K) E) (ok_Order__init__ (K := K) E) (hr.mono (by decide)) rfl (g_Order (K := K) E) (b_Order__init__ (K := K) E) .nil pass0 (pa_cons (pe_callTy call_list_of (by rfl) (fr_list (K := K) E) (by decide +kernel) (pa_cons (pv 5) pa_nil)) pa_nil)) (pa_cons (pe_make (mk_Order (K := K) E) (ok_Order__init__ (K := K) E) (hr.mono (by decide)) rfl (g_Order (K := K) E) (b_Order__init__ (K := K) E) .nil pass0 (pa_cons (pe_callTy call_list_of (by rfl) (fr_list (K := K) E) (by decide +kernel) (pa_cons (pv 6) pa_nil)) pa_nil)) pa_nil))) (pk_cons (pv 2) pk_nil)))
    (pss_cons (ps_set (i := 9) sc_law.nd rfl (Or.inl rfl) (pe_call (ok__law_ways (K := K) E) (hr.mono (by decide)) rfl (g__law_ways (K := K) E) (k__law_ways (K := K) E) (b__law_ways (K := K) E) .nil pass0 (pa_cons (pe_make (mk_Order (K := K) E) (ok_Order__init__ (K := K) E) (hr.mono (by decide)) rfl (g_Order (K := K) E) (b_Order__init__ (K := K) E) .nil pass0 (pa_cons (pe_callTy call_list_of (by rfl) (fr_list (K := K) E) (by decide +kernel) (pa_cons (pv 5) pa_nil)) pa_nil)) (pa_cons (pv 8) pa_nil))))
    (pss_cons (ps_if (pt_cmpR (op_neD (hu64 hr)) (pe_meth0 (pe_ix ix_list (pv 9) (pe_un un_neg pe_int) (fun _ _ => rfl)) (cl_Order (K := K) E) (m_Order_pairs (K := K) E) (ok_Order_pairs (K := K) E) (hr.mono (by decide)) (b_Order_pairs (K := K) E) .nil pass0) (pv 6) (nomark _)) (pss_one (ps_ret pe_bl)) pss_nil)
    (pss_cons (ps_for PassesOwn.never rfl (pi_range2 rfl (fr_range (K := K) E) (pa_cons pe_int (pa_cons (pe_callB (call_max2 rfl) (by rfl) (fr_max (K := K) E) (by decide +kernel) (pa_cons pe_int (pa_cons (pe_callB call_len_seq (by rfl) (fr_len (K := K) E) boot_len (pa_cons (pe_slice sl_list (pv 0) po_none (po_some pe_int)) pa_nil)) pa_nil))) pa_nil))) (pg_name (i := 10) sc_law.nd rfl (Or.inl rfl))
    (pss_cons (ps_set (i := 11) sc_law.nd rfl (Or.inl rfl) (pe_ix ix_list (pe_lst (pa_cons pe_int (pa_cons pe_int (pa_cons (pe_op op_pow pe_int pe_int) pa_nil)))) (pe_op op_modN (pv 10) pe_int) (fun _ _ => rfl)))
    (pss_cons (ps_asg (pe_call (ok__law_fitting (K := K) E) (hr.mono (by decide)) rfl (g__law_fitting (K := K) E) (k__law_fitting (K := K) E) (b__law_fitting (K := K) E) .nil pass0 (pa_cons (pv 0) (pa_cons (pv 10) (pa_cons (pv 3) (pa_cons (pv 2) (pa_cons (pv 11) pa_nil)))))) (pg_tup rfl (pgs_cons (pg_name (i := 12) sc_law.nd rfl (Or.inl rfl)) (pgs_cons (pg_name (i := 13) sc_law.nd rfl (Or.inl rfl)) pgs_nil))))
    (pss_one (ps_if (pt_not (pt_val (pe_call (ok__law_keeps (K := K) E) (hr.mono (by decide)) rfl (g__law_keeps (K := K) E) (k__law_keeps (K := K) E) (b__law_keeps (K := K) E) .nil pass0 (pa_cons (pv 7) (pa_cons (pv 3) (pa_cons (pv 9) (pa_cons (pv 8) (pa_cons (pv 12) (pa_cons (pv 13) pa_nil))))))))) (pss_one (ps_ret pe_bl)) pss_nil)))))
    (pss_one (ps_ret pe_bl))))))))))))), ?_⟩
    refine ⟨_, rfl, by show 5 ≤ sizeLine; decide, fun z1 hz1 => ?_⟩
    have s1 := Same.new hz1 (o := .lst [V.int 4, .int 4, .int 8, .int 3, .int 4])
    refine ⟨a, z1, 0, 5, fun i => if i = 2 then 8 else if i = 3 then 3 else 4, rfl, ha.same s1, upd_same, by decide, fun i hi => ?_, fun H1 hd0 d sd hd1 hd2 hd3 => ?_⟩
    · refine ⟨?_, ?_⟩
      · show 0 < (if i = 2 then (8 : Int) else if i = 3 then 3 else 4)
        split
        · decide
        · split <;> decide
      · show (if i = 2 then (8 : Int) else if i = 3 then 3 else 4).natAbs < 2 ^ 1000
        refine Nat.lt_of_lt_of_le (show _ < 2 ^ 4 from ?_) (pow_mono (by decide))
        split
        · decide
        · split <;> decide
    have hdd : Hd5 H1 hd0 d := by
      refine ⟨hd2, fun i hi => (hd3 i hi).1, ?_, ?_, ?_, ?_, ?_⟩
      · exact (hd3 0 (by decide)).2
      · exact (hd3 1 (by decide)).2
      · exact (hd3 2 (by decide)).2
      · exact (hd3 3 (by decide)).2
      · exact (hd3 4 (by decide)).2
    have s01 := s1.trans sd
    refine ⟨by show 4 ≤ sizeLine; decide, fun z2 hz2 => ?_⟩
    have s2 := Same.new hz2 (o := .lst [V.str "even", .str "stock", .str "wish", .str "any"])
    refine ⟨_, rfl, hd0, _, _, _, rfl, rfl, SqL.of (s2 _ _ hd2), atR (i := 4) (fun i => V.int (d i)) (by decide), ?_⟩
    obtain ⟨z, ez, hzk⟩ : ∃ z : Str, atI [V.str "even", .str "stock", .str "wish", .str "any"] (d 4) = some (.str z) ∧ isK z := by
      have h4 := hdd.h4
      have n4 := hdd.nn 4 (by decide)
      have : d 4 = 0 ∨ d 4 = 1 ∨ d 4 = 2 ∨ d 4 = 3 := by omega
      rcases this with e | e | e | e <;> rw [e]
      · exact ⟨_, rfl, .inl rfl⟩
      · exact ⟨_, rfl, .inr (.inl rfl)⟩
      · exact ⟨_, rfl, .inr (.inr (.inl rfl))⟩
      · exact ⟨_, rfl, .inr (.inr (.inr rfl))⟩
    refine ⟨z2, _, _, _, rfl, rfl, SqL.of upd_same, ez, ?_⟩
    have s02 := s01.trans s2
    refine ⟨_, rfl, _, rfl, _, rfl, a, hd0, z, d, rfl, ha.same s02, ⟨s2 _ _ hdd.o, hdd.nn, hdd.h0, hdd.h1, hdd.h2, hdd.h3, hdd.h4⟩, fun H3 g m n c s3 hg0 hg G => ?_⟩
    have s03 := s02.trans s3
    have hd := G.dim
    refine ⟨_, rfl, _, rfl, g, m, n, z, c, rfl, hg, hd, fun H4 nd s4 hnd0 hN => ?_⟩
    have s04 := s03.trans s4
    have h64 := cells64 c hd
    have h16 : (cells m n c).length ≤ 16 := Nat.le_trans (len_cells m n c) (Nat.mul_le_mul G.m4 G.n4)
    have hg4 := hg.same s4
    -- the first walk
    refine ⟨_, rfl, _, rfl, Nat.succ_le_of_lt (by decide), fun p5 hp5 => ?_⟩
    have s5 := Same.new hp5 (o := .lst [V.int 16])
    refine ⟨p5, _, _, rfl, rfl, upd_same, by decide, by decide, ?_, fun p6 hp6 => ?_⟩
    · exact Nat.le_trans (show 1 * 16 ≤ 16 by omega) (by decide)
    rw [show Int.toNat 16 = 16 from rfl, rep_rg]
    have s6 := Same.new0 s5 hp6 (o := .lst (rg 16 fun _ => V.int 16))
    refine ⟨a, p6, 2, 16, fun _ => 16, rfl, (ha.same s04).same s6, upd_same, by decide, fun i hi => ⟨(by decide : (0 : Int) < 16), Nat.lt_of_lt_of_le (show (16 : Int).natAbs < 2 ^ 5 by decide) (pow_mono (by decide))⟩, fun H7 l7 d7 s7 hl7 hd7 _ => ?_⟩
    have s47 := s6.trans s7
    refine ⟨nd, l7, cells m n c, needsOf m n c z, 16, d7, rfl, hN.same s47, fun q _ L hL => need_len hL, h64, nodup_cells m n c, hd7, h16, fun H' s hnf => absurd G.fr hnf, fun H8 la L1 s8 hla0 hLa wk1 => ?_⟩
    have s48 := s47.trans s8
    -- the second walk
    refine ⟨_, rfl, _, rfl, Nat.succ_le_of_lt (by decide), fun p9 hp9 => ?_⟩
    have s9 := Same.new hp9 (o := .lst [V.int 16])
    refine ⟨p9, _, _, rfl, rfl, upd_same, by decide, by decide, ?_, fun p10 hp10 => ?_⟩
    · exact Nat.le_trans (show 1 * 16 ≤ 16 by omega) (by decide)
    rw [show Int.toNat 16 = 16 from rfl, rep_rg]
    have s10 := Same.new0 s9 hp10 (o := .lst (rg 16 fun _ => V.int 16))
    refine ⟨a, p10, 3, 16, fun _ => 16, rfl, ((ha.same s04).same s48).same s10, upd_same, by decide, fun i hi => ⟨(by decide : (0 : Int) < 16), Nat.lt_of_lt_of_le (show (16 : Int).natAbs < 2 ^ 5 by decide) (pow_mono (by decide))⟩, fun H11 l11 d11 s11 hl11 hd11 _ => ?_⟩
    have s411 := s48.trans (s10.trans s11)
    refine ⟨nd, l11, cells m n c, needsOf m n c z, 16, d11, rfl, hN.same s411, fun q _ L hL => need_len hL, h64, nodup_cells m n c, hd11, h16, fun H' s hnf => absurd G.fr hnf, fun H12 lb L2 s12 hlb0 hLb wk2 => ?_⟩
    have s812 := (s10.trans s11).trans s12
    have s412 := s48.trans s812
    have hLa12 := hLa.same s812
    -- Table(copy)
    refine ⟨_, rfl, g, m, n, c, rfl, hg4.same s412, by have := G.m4; omega, fun H13 g' s13 hg'0 hg' => ?_⟩
    refine fun t dt nt ndt net => ?_
    have t3 := Same.new0 (Same.new0 (Same.refl _) ndt (o := .own t)) (a := t) (o := .ins (c_Table K) dt []) (by rw [upd_ne net.symm]; exact nt)
    refine ⟨t, dt, g', m, n, c, rfl, upd_same, hg'.same t3, hd, fun H14 sx ht => ⟨rfl, ?_⟩⟩
    have s14 : Same H13 H14 := Same.made nt ndt sx
    have s1214 := s13.trans s14
    have hw1 : Whole m n c L1 := wk1.perm
    have hw2 : Whole m n c L2 := wk2.perm
    have hsm : ∀ L, Whole m n c L → small L := fun L hw => by
      refine ⟨by rw [List.Perm.length_eq hw]; exact h64, (List.Perm.nodup_iff hw).mpr (nodup_cells m n c), fun q hq => ?_⟩
      obtain ⟨c1, c2, _⟩ := hw.mem hq
      have := G.m4
      have := G.n4
      exact ⟨by omega, by omega⟩
    obtain ⟨ts1, oL1, pts1⟩ := hLa12.same s1214
    obtain ⟨ts2, oL2, pts2⟩ := hLb.same s1214
    refine ⟨_, rfl, _, rfl, la, _, rfl, .inl (SqL.of oL1), fun A hA => ?_⟩
    have sA := Same.new hA (o := .lst (ts1.map V.ref))
    refine fun o1 do1 no1 ndo1 neo1 => ?_
    have a3 := Same.new0 (Same.new0 (Same.refl _) ndo1 (o := .own o1)) (a := o1) (o := .ins (c_Order K) do1 []) (by rw [upd_ne neo1.symm]; exact no1)
    refine ⟨o1, do1, A, L1, rfl, upd_same, PairsAt.same ⟨ts1, upd_same, pts1.same sA⟩ a3, hsm L1 hw1, fun H15 sx1 ho1 => ⟨rfl, ?_⟩⟩
    have s15 := sA.trans (Same.made no1 ndo1 sx1)
    refine ⟨_, rfl, lb, _, rfl, .inl (SqL.of (s15 _ _ oL2)), fun B hB => ?_⟩
    have sB := Same.new hB (o := .lst (ts2.map V.ref))
    refine fun o2 do2 no2 ndo2 neo2 => ?_
    have b3 := Same.new0 (Same.new0 (Same.refl _) ndo2 (o := .own o2)) (a := o2) (o := .ins (c_Order K) do2 []) (by rw [upd_ne neo2.symm]; exact no2)
    refine ⟨o2, do2, B, L2, rfl, upd_same, PairsAt.same ⟨ts2, upd_same, (pts2.same s15).same sB⟩ b3, hsm L2 hw2, fun H16 sx2 ho2 => ⟨rfl, ?_⟩⟩
    have s16 := sB.trans (Same.made no2 ndo2 sx2)
    have s1416 := s15.trans s16
    refine ⟨_, rfl, rfl, rfl, t, o1, o2, z, m, n, c, L1, L2, rfl, ht.same s1416, ho1.same s16, ho2, hd, hw1, hw2, hzk, nofault_walked wk1, nofault_walked wk2, fun H17 ka ks os s17 hka0 hka hkn wy hlast => ?_⟩
    have s1417 := s1416.trans s17
    have hwh : ∀ L ∈ os, Whole m n c L := fun L hL => by
      obtain ⟨i, hi, e⟩ := List.mem_iff_getElem.mp hL
      exact ways_perm wy hw1 i L (by rw [List.getElem?_eq_getElem hi, e])
    -- ways
    refine ⟨_, rfl, la, _, rfl, .inl (SqL.of (s1417 _ _ oL1)), fun C hC => ?_⟩
    have sC := Same.new hC (o := .lst (ts1.map V.ref))
    refine fun o3 do3 no3 ndo3 neo3 => ?_
    have c3 := Same.new0 (Same.new0 (Same.refl _) ndo3 (o := .own o3)) (a := o3) (o := .ins (c_Order K) do3 []) (by rw [upd_ne neo3.symm]; exact no3)
    refine ⟨o3, do3, C, L1, rfl, upd_same, PairsAt.same ⟨ts1, upd_same, (pts1.same s1417).same sC⟩ c3, hsm L1 hw1, fun H18 sx3 ho3 => ⟨rfl, ?_⟩⟩
    have s18 := sC.trans (Same.made no3 ndo3 sx3)
    refine ⟨_, rfl, o3, ka, NoFault m n c z, L1, ks, os, rfl, ho3, s18 _ _ hka, hkn, wy, fun L hL => hsm L (hwh L hL), fun H19 W ps s19 hW0 hW hps => ?_⟩
    have s1419 := s1417.trans (s18.trans s19)
    have hpl : ks.length < ps.length := by rw [hps.1, wy.len]; omega
    obtain ⟨pl, epl⟩ : ∃ pl, ps[ks.length]? = some pl := ⟨_, List.getElem?_eq_getElem hpl⟩
    have hol := hps.2 _ pl L2 epl hlast
    obtain ⟨dxl, lol, sol, hpl', _⟩ := id hol
    have eix : atI (ps.map V.ref) (-1) = some (V.ref pl) := by
      have e1 : ps = ps.take ks.length ++ [pl] := by
        rw [← take_snoc epl, List.take_of_length_le (by rw [hps.1, wy.len]; omega)]
      rw [e1, List.map_append]
      exact atI_last _ _
    refine ⟨_, rfl, _, rfl, W, _, _, _, rfl, rfl, SqL.of hW, eix, pl, dxl, _, rfl, hpl', rfl, pl, L2, rfl, hol, fun H20 lst s20 hl ⟨ts, ol, pts⟩ => ?_⟩
    have s1420 := s1419.trans s20
    refine ⟨_, rfl, _, _, pds_dp ol pts, pds_dp (s1420 _ _ oL2) (pts2.same s1420), pds_shaped _, pds_shaped _, ?_⟩
    rw [pds_eqv]
    refine ⟨_, rfl, ?_⟩
    obtain ⟨ns, hns, hnl⟩ := id ha
    have hsH : Same H H20 := ((s04.trans s412).trans s1214).trans s1420
    have hnsF := Same.seq hsH hns
    refine ⟨_, rfl, _, rfl, a, _, rfl, hnsF, fun R hR => ?_⟩
    have sR := Same.new hR (o := .lst (cutV (ns.map V.int) none (some 10)))
    refine ⟨R, _, rfl, .inl (SqL.of upd_same), _, _, rfl, ?_⟩
    obtain ⟨M, hM⟩ : ∃ M : Int, (if ((cutV (ns.map V.int) none (some 10)).length : Int) > 6 then ((cutV (ns.map V.int) none (some 10)).length : Int) else 6) = M := ⟨_, rfl⟩
    have hMb : M ≤ 63 := by
      have := cut_len (xs := ns.map V.int) (lo := none) (hi := some 10)
      rw [List.length_map] at this
      rw [← hM]
      split <;> omega
    rw [hM]
    have hM6 : 6 ≤ M := by rw [← hM]; split <;> omega
    refine ⟨_, _, rfl, ⟨by decide, by decide, by omega, by omega⟩, ?_⟩
    refine for_it (walk_range (lo := 4) (n := (M - 4).toNat)) (fun i σ H' => ∃ (v10 v11 v12 v13 : Option V), σ = [some (.ref a), some (.ref hd0), some (.str z), some (.ref g), some (.ref nd), some (.ref la), some (.ref lb), some (.ref t), some (.ref ka), some (.ref W), v10, v11, v12, v13] ∧ Same H20 H') ⟨none, none, none, none, rfl, sR⟩ (fun _ _ _ _ _ => trivial) ?_ ?_
    · rintro i x σ H' H'' hi ⟨v10, v11, v12, v13, rfl, s⟩ ⟨rfl, rfl⟩
      have ec : (fun i : Nat => V.int (4 + (i : Int))) i = V.int ((4 + i : Nat) : Int) := congrArg V.int (by omega)
      rw [ec]
      refine ⟨_, _, rfl, rfl, ?_, by show 3 ≤ sizeLine; decide, fun q hq => ?_⟩
      · exact ⟨by decide, by decide, by decide⟩
      refine ⟨_, rfl, _, _, rfl, rfl, (show (3 : Int) ≠ 0 by decide), ?_⟩
      obtain ⟨sz, hsz, hs0, hsB⟩ : ∃ sz : Int, atI [V.int 2, .int 1000, .int (10 ^ 57)] (((4 + i : Nat) : Int).fmod 3) = some (.int sz) ∧ 0 < sz ∧ Bd 300 sz := by
        have e3 : ((4 + i : Nat) : Int).fmod 3 = (((4 + i) % 3 : Nat) : Int) := by rw [Int.fmod_eq_emod_of_nonneg _ (by decide)]; omega
        rw [e3]
        have h3 : (4 + i) % 3 = 0 ∨ (4 + i) % 3 = 1 ∨ (4 + i) % 3 = 2 := by omega
        have bb : ∀ v : Int, v.natAbs < 2 ^ 200 → Bd 300 v := fun v h => Nat.lt_of_lt_of_le h (pow_mono (by decide))
        rcases h3 with h3 | h3 | h3 <;> rw [h3]
        · exact ⟨_, rfl, by decide, bb _ (by decide)⟩
        · exact ⟨_, rfl, by decide, bb _ (by decide)⟩
        · exact ⟨_, rfl, by decide +kernel, bb _ (by decide +kernel)⟩
      refine ⟨q, _, _, _, rfl, rfl, SqL.of upd_same, hsz, ?_⟩
      have sq := Same.new0 s hq (o := .lst [V.int 2, .int 1000, .int (10 ^ 57)])
      have hq0 := hsH.trans sq
      have s4q := (s412.trans s1214).trans (s1420.trans sq)
      have s14q := s1420.trans sq
      have s19q := s20.trans sq
      refine ⟨_, rfl, _, rfl, _, rfl, _, rfl, _, rfl, a, g, 4 + i, m, n, z, c, sz, rfl, ha.same hq0, hg4.same s4q, G.m1, G.m4, G.n1, G.n4, hs0, hsB, fun H21 T Sa Wa u v x s21 hT0 hT hu hv F => ?_⟩
      refine ⟨T, _, rfl, .inl (.inl hT), rfl, _, _, rfl, _, _, rfl, rfl, ?_⟩
      have s1421 := s14q.trans s21
      have s1921 := s19q.trans s21
      refine ⟨_, rfl, _, rfl, _, rfl, _, rfl, _, rfl, _, rfl, t, g, W, ka, Sa, Wa, m, n, c, z, ps, L1, ks, os, u, v, x, rfl, ht.same s1421, (hg4.same s4q).same s21, s1921 _ _ hW, hps.same s1921, ((s18.trans s19).trans s1921) _ _ hka, wy, hwh, hd, G.bd, hu, hv, F, fun H22 s22 => ?_⟩
      exact ⟨_, rfl, _, _, _, _, rfl, (sq.trans s21).trans s22⟩
    · rintro σ H' ⟨v10, v11, v12, v13, rfl, s⟩
      exact k H'
end
end K78
end
set_option Elab.async false
set_option linter.all false
set_option maxRecDepth 100000
set_option maxHeartbeats 4000000
namespace K78
open PySem PySem.Spec PyProof.Rows L2 He
theorem facts {P : Program} {w : World} {K : PySem.W.Frag} {h : Heap} {mg : Str → Option Value} {f : Addr} (X : K.In h) (G : h.Ns mainGlobals mg) (hfa : mg ("law" : Str) = some (.ref f)) (c : He.SaysD fa fn K ∧ exK K = true) :
    ∃ fd : FuncData, (∀ (s : Shared) (v : Value), BindsTo s fd ⟨[v], []⟩ [("_law_script", v)]) ∧ ∀ base : Heap, K.In base → base.Ns mainGlobals mg → FnOk P w K mg base CX0 11 f fd ["_law_script"] (sp_law K) := by
  have E : TX K mg := ⟨c.1, c.2, h, X, G⟩
  have e := hfa.symm.trans (g_law E)
  cases e
  have b := FunD.bindsA (ps := ["_law_script"]) (f_law E) fun _ _ _ _ _ _ us hl => match us, hl with | [_], _ => rfl
  exact ⟨_, fun s v => b s [v] rfl, fun base _ _ => ok_law E⟩
end K78
open PySem PySem.W PySem.Calls PyProof.Rows
theorem PySem.Challenge.cw_pairorder_k78_whole_leads_keep_the_cost_holds : PySem.Challenge.rw_pairorder_k78_whole_leads_keep_the_cost.Holds := by
  w_on; o_law
  refine HandSHeadRun.head_any (r := OpenLaw.row PySem.Challenge.rw_pairorder_k78_whole_leads_keep_the_cost) (q := view (OpenLaw.row PySem.Challenge.rw_pairorder_k78_whole_leads_keep_the_cost).prog [90]) (H := K78.hk) (ob := K78.ob) (M := 12000) (loose := K78.lo) (d := HandSHeadRun.topDef (OpenLaw.row PySem.Challenge.rw_pairorder_k78_whole_leads_keep_the_cost).prog 90) (kwd := []) K78.ob_eq
    (by kernel_rfl) (fun s => by kernel_rfl) K78.run (by kernel_rfl) (by kernel_rfl) (by kernel_rfl) (by rfl) (by first | assumption | decide +kernel) (by decide +kernel) ⟨rfl, rfl, rfl, rfl, rfl, by decide +kernel⟩ ?hw ?hc
  case hw => w_witness2
  case hc =>
    refine L2.walk_ofE (l := PySem.Challenge.rw_pairorder_k78_whole_leads_keep_the_cost) (n := 63) (k := 11) (x := "_law_script") (CX := L2.CX0) rfl (by decide) (by kernel_rfl) ⟨rfl, by decide, by decide⟩ ?F (fun _ _ _ _ z => z)
    intro w mg fa h Y G hmg0
    obtain ⟨K, KX, c⟩ := Y
    have hmg : mg ("law" : PySem.Str) = some (.ref fa) := by
      have e : (HandSHeadRun.topDef (OpenLaw.row PySem.Challenge.rw_pairorder_k78_whole_leads_keep_the_cost).prog 90).name = ("law" : PySem.Str) := by kernel_rfl
      rw [← e]
      exact hmg0
    obtain ⟨fd, hb, hF⟩ := K78.facts (P := (PySem.Challenge.rw_pairorder_k78_whole_leads_keep_the_cost).prog) (w := w) KX G hmg c
    exact ⟨K, fd, K78.sp_law K, KX, hb, fun H a ns hl _ hS => ⟨a, rfl, ⟨ns, hS, hl⟩, fun _ => rfl⟩, hF⟩
