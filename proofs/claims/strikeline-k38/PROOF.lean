import PyProof.Rows.All
import Wide.All
import OpenK.AllK
import Wide.FinOn
import HandS.ForMost
import HandS.Defaults
import HandS.HeadHook1
import HandS.HeadHook2
import KE.KStateDown
import Lean
import HandS.Head0
import HandS.Head1
import HandS.Head2
import HandS.HeadEnd
import HandS.MakeKwOnly
import HandS.IsInst
import HandS.Conv
import HandS.Style
import HandS.NoneIn
import HandS.TupAny
import HandS.Deep
import HandS.SetKeys
import HandS.Strs
import HandS.SetFor
import HandS.SortKw
import HandS.SortInts
import HandS.DictComp
import HandS.Wide
import HandS.WideMore
import HandS.WideBits
import HandS.Flow
import HandS.CallLocal
import KE.GoesMore
import KE.GoesEnum
import KE.GoesEnumKw
import PyProof.Rows.CallKwBuiltin
import PyProof.MinMaxWalk
import HandS.Zip
import KE.KTupDict
import HandS.Small
import PySem.Challenge.RW_strikeline_k38_whole_gaps_woven
/-! SlDefs -/
set_option Elab.async false
set_option linter.all false
set_option maxRecDepth 100000
namespace Sl
open PySem PySem.Spec PyProof.Rows L2
def top (i : Nat) : Stmt := PySem.Challenge.pw_strikeline_k38_whole_gaps_woven.main.body.getD i (.Pass ⟨0, 0, 0, 0⟩)
abbrev s_is_whole : Stmt := top 16
abbrev s_is_letter : Stmt := top 17
abbrev s_need_word : Stmt := top 18
abbrev s_is_side : Stmt := top 25
abbrev s_rule_looks : Stmt := top 26
abbrev s_need_book : Stmt := top 27
abbrev s_fits_case : Stmt := top 28
abbrev s_price_there : Stmt := top 29
abbrev s_letter_at : Stmt := top 31
abbrev s_need_ring : Stmt := top 32
abbrev s_need_order : Stmt := top 33
abbrev s_Line_init : Stmt := inClass (top 34) 0
abbrev s_Line_need_standing : Stmt := inClass (top 34) 1
abbrev s_Line_sides_of : Stmt := inClass (top 34) 2
abbrev s_Line_price_of : Stmt := inClass (top 34) 3
abbrev s_Line_strike : Stmt := inClass (top 34) 4
abbrev s_Line_standing : Stmt := inClass (top 34) 8
abbrev s_Line_paid : Stmt := inClass (top 34) 11
abbrev s_gone_along : Stmt := top 35
abbrev s_run : Stmt := top 36
abbrev s_Fits_init : Stmt := inClass (top 40) 0
abbrev s_Fits_cost : Stmt := inClass (top 40) 1
abbrev s_Gaps_init : Stmt := inClass (top 41) 0
abbrev s_Gaps_cost : Stmt := inClass (top 41) 1
abbrev s_Gaps_is_open : Stmt := inClass (top 41) 2
abbrev s_Gaps_look : Stmt := inClass (top 41) 3
abbrev s_Gaps_look_within : Stmt := inClass (top 41) 4
abbrev s_need_gap : Stmt := top 42
abbrev s_need_all : Stmt := top 43
abbrev s_gaps_within : Stmt := top 44
abbrev s_met_parts : Stmt := top 45
abbrev s_is_part : Stmt := top 46
abbrev s_parts_by_form : Stmt := top 47
abbrev s_tree_places : Stmt := top 48
abbrev s_all_rows : Stmt := top 50
abbrev s_times_over : Stmt := top 51
abbrev s_Sums_init : Stmt := inClass (top 52) 0
abbrev s_Sums_lasts : Stmt := inClass (top 52) 1
abbrev s_Sums_orders_with : Stmt := inClass (top 52) 2
abbrev s_Sums_sum_up : Stmt := inClass (top 52) 3
abbrev s_sums_of : Stmt := top 53
abbrev s_how_many_orders : Stmt := top 54
abbrev s_times_at : Stmt := top 55
abbrev s_order_in : Stmt := top 56
abbrev s_order_by : Stmt := top 57
abbrev s_product_of : Stmt := top 58
abbrev s_orders_of_tree : Stmt := top 59
abbrev s_tree_in : Stmt := top 60
abbrev s_tree_of : Stmt := top 61
abbrev s_forest_of : Stmt := top 63
abbrev s_two_forests : Stmt := top 64
abbrev s_are_one : Stmt := top 65
abbrev s_how_many_one : Stmt := top 66
abbrev s_exchanged : Stmt := top 67
abbrev s_exchange_row : Stmt := top 68
abbrev s_far_apart : Stmt := top 69
abbrev s_Lbegun : Stmt := top 71
abbrev s_Ltake : Stmt := top 72
abbrev s_Lof : Stmt := top 73
abbrev s_Lletters : Stmt := top 74
abbrev s_Lword : Stmt := top 75
abbrev s_Lbook : Stmt := top 76
abbrev s_Lsign : Stmt := top 77
abbrev s_Lfits : Stmt := top 78
abbrev s_Lopen : Stmt := top 79
abbrev s_Lwithout : Stmt := top 80
abbrev s_Lstruck : Stmt := top 81
abbrev s_Lgaps : Stmt := top 82
abbrev s_Lwoven : Stmt := top 83
abbrev s_Lpairs : Stmt := top 84
abbrev s_Lheap : Stmt := top 85
abbrev s_Lways : Stmt := top 86
abbrev s_Lright : Stmt := top 87
abbrev s_Lmany_right : Stmt := top 88
abbrev s_law : Stmt := top 89
abbrev FnP (K : PySem.W.Frag) (x q : Str) (st : Stmt) (f : Addr) (fd : FuncData) : Prop := FunD K x q (defArgs st) (defBody st) (defScope st) [] [] f fd
def d_is_whole : He.DefD := ⟨("is_whole", none), "is_whole", "is_whole", defArgs s_is_whole, defBody s_is_whole, defScope s_is_whole, [], [("least", .int 0), ("most", .int 120)]⟩
def d_is_letter : He.DefD := ⟨("is_letter", none), "is_letter", "is_letter", defArgs s_is_letter, defBody s_is_letter, defScope s_is_letter, [], []⟩
def d_need_word : He.DefD := ⟨("need_word", none), "need_word", "need_word", defArgs s_need_word, defBody s_need_word, defScope s_need_word, [], []⟩
def d_is_side : He.DefD := ⟨("is_side", none), "is_side", "is_side", defArgs s_is_side, defBody s_is_side, defScope s_is_side, [], []⟩
def d_rule_looks : He.DefD := ⟨("rule_looks", none), "rule_looks", "rule_looks", defArgs s_rule_looks, defBody s_rule_looks, defScope s_rule_looks, [], []⟩
def d_need_book : He.DefD := ⟨("need_book", none), "need_book", "need_book", defArgs s_need_book, defBody s_need_book, defScope s_need_book, [], []⟩
def d_fits_case : He.DefD := ⟨("fits_case", none), "fits_case", "fits_case", defArgs s_fits_case, defBody s_fits_case, defScope s_fits_case, [], []⟩
def d_price_there : He.DefD := ⟨("price_there", none), "price_there", "price_there", defArgs s_price_there, defBody s_price_there, defScope s_price_there, [], []⟩
def d_letter_at : He.DefD := ⟨("letter_at", none), "letter_at", "letter_at", defArgs s_letter_at, defBody s_letter_at, defScope s_letter_at, [], []⟩
def d_need_ring : He.DefD := ⟨("need_ring", none), "need_ring", "need_ring", defArgs s_need_ring, defBody s_need_ring, defScope s_need_ring, [], []⟩
def d_need_order : He.DefD := ⟨("need_order", none), "need_order", "need_order", defArgs s_need_order, defBody s_need_order, defScope s_need_order, [], []⟩
def d_Line_init : He.DefD := ⟨("Line", some "__init__"), "__init__", "Line.__init__", defArgs s_Line_init, defBody s_Line_init, defScope s_Line_init, [], [("ring", .bl false)]⟩
def d_Line_need_standing : He.DefD := ⟨("Line", some "need_standing"), "need_standing", "Line.need_standing", defArgs s_Line_need_standing, defBody s_Line_need_standing, defScope s_Line_need_standing, [], []⟩
def d_Line_sides_of : He.DefD := ⟨("Line", some "sides_of"), "sides_of", "Line.sides_of", defArgs s_Line_sides_of, defBody s_Line_sides_of, defScope s_Line_sides_of, [], []⟩
def d_Line_price_of : He.DefD := ⟨("Line", some "price_of"), "price_of", "Line.price_of", defArgs s_Line_price_of, defBody s_Line_price_of, defScope s_Line_price_of, [], []⟩
def d_Line_strike : He.DefD := ⟨("Line", some "strike"), "strike", "Line.strike", defArgs s_Line_strike, defBody s_Line_strike, defScope s_Line_strike, [], []⟩
def d_Line_standing : He.DefD := ⟨("Line", some "standing"), "standing", "Line.standing", defArgs s_Line_standing, defBody s_Line_standing, defScope s_Line_standing, [], []⟩
def d_Line_paid : He.DefD := ⟨("Line", some "paid"), "paid", "Line.paid", defArgs s_Line_paid, defBody s_Line_paid, defScope s_Line_paid, [], []⟩
def d_gone_along : He.DefD := ⟨("gone_along", none), "gone_along", "gone_along", defArgs s_gone_along, defBody s_gone_along, defScope s_gone_along, [], []⟩
def d_run : He.DefD := ⟨("run", none), "run", "run", defArgs s_run, defBody s_run, defScope s_run, [], [("ring", .bl false)]⟩
def d_Fits_init : He.DefD := ⟨("Fits", some "__init__"), "__init__", "Fits.__init__", defArgs s_Fits_init, defBody s_Fits_init, defScope s_Fits_init, [], []⟩
def d_Fits_cost : He.DefD := ⟨("Fits", some "cost"), "cost", "Fits.cost", defArgs s_Fits_cost, defBody s_Fits_cost, defScope s_Fits_cost, [], []⟩
def d_Gaps_init : He.DefD := ⟨("Gaps", some "__init__"), "__init__", "Gaps.__init__", defArgs s_Gaps_init, defBody s_Gaps_init, defScope s_Gaps_init, [], []⟩
def d_Gaps_cost : He.DefD := ⟨("Gaps", some "cost"), "cost", "Gaps.cost", defArgs s_Gaps_cost, defBody s_Gaps_cost, defScope s_Gaps_cost, [], []⟩
def d_Gaps_is_open : He.DefD := ⟨("Gaps", some "is_open"), "is_open", "Gaps.is_open", defArgs s_Gaps_is_open, defBody s_Gaps_is_open, defScope s_Gaps_is_open, [], []⟩
def d_Gaps_look : He.DefD := ⟨("Gaps", some "look"), "look", "Gaps.look", defArgs s_Gaps_look, defBody s_Gaps_look, defScope s_Gaps_look, [], []⟩
def d_Gaps_look_within : He.DefD := ⟨("Gaps", some "look_within"), "look_within", "Gaps.look_within", defArgs s_Gaps_look_within, defBody s_Gaps_look_within, defScope s_Gaps_look_within, [], []⟩
def d_need_gap : He.DefD := ⟨("need_gap", none), "need_gap", "need_gap", defArgs s_need_gap, defBody s_need_gap, defScope s_need_gap, [], []⟩
def d_need_all : He.DefD := ⟨("need_all", none), "need_all", "need_all", defArgs s_need_all, defBody s_need_all, defScope s_need_all, [], []⟩
def d_gaps_within : He.DefD := ⟨("gaps_within", none), "gaps_within", "gaps_within", defArgs s_gaps_within, defBody s_gaps_within, defScope s_gaps_within, [], []⟩
def d_met_parts : He.DefD := ⟨("met_parts", none), "met_parts", "met_parts", defArgs s_met_parts, defBody s_met_parts, defScope s_met_parts, [], []⟩
def d_is_part : He.DefD := ⟨("is_part", none), "is_part", "is_part", defArgs s_is_part, defBody s_is_part, defScope s_is_part, [], []⟩
def d_parts_by_form : He.DefD := ⟨("parts_by_form", none), "parts_by_form", "parts_by_form", defArgs s_parts_by_form, defBody s_parts_by_form, defScope s_parts_by_form, [], []⟩
def d_tree_places : He.DefD := ⟨("tree_places", none), "tree_places", "tree_places", defArgs s_tree_places, defBody s_tree_places, defScope s_tree_places, [], []⟩
def d_all_rows : He.DefD := ⟨("all_rows", none), "all_rows", "all_rows", defArgs s_all_rows, defBody s_all_rows, defScope s_all_rows, [], []⟩
def d_times_over : He.DefD := ⟨("times_over", none), "times_over", "times_over", defArgs s_times_over, defBody s_times_over, defScope s_times_over, [], []⟩
def d_Sums_init : He.DefD := ⟨("Sums", some "__init__"), "__init__", "Sums.__init__", defArgs s_Sums_init, defBody s_Sums_init, defScope s_Sums_init, [], []⟩
def d_Sums_lasts : He.DefD := ⟨("Sums", some "lasts"), "lasts", "Sums.lasts", defArgs s_Sums_lasts, defBody s_Sums_lasts, defScope s_Sums_lasts, [], []⟩
def d_Sums_orders_with : He.DefD := ⟨("Sums", some "orders_with"), "orders_with", "Sums.orders_with", defArgs s_Sums_orders_with, defBody s_Sums_orders_with, defScope s_Sums_orders_with, [], []⟩
def d_Sums_sum_up : He.DefD := ⟨("Sums", some "sum_up"), "sum_up", "Sums.sum_up", defArgs s_Sums_sum_up, defBody s_Sums_sum_up, defScope s_Sums_sum_up, [], []⟩
def d_sums_of : He.DefD := ⟨("sums_of", none), "sums_of", "sums_of", defArgs s_sums_of, defBody s_sums_of, defScope s_sums_of, [], []⟩
def d_how_many_orders : He.DefD := ⟨("how_many_orders", none), "how_many_orders", "how_many_orders", defArgs s_how_many_orders, defBody s_how_many_orders, defScope s_how_many_orders, [], []⟩
def d_times_at : He.DefD := ⟨("times_at", none), "times_at", "times_at", defArgs s_times_at, defBody s_times_at, defScope s_times_at, [], []⟩
def d_order_in : He.DefD := ⟨("order_in", none), "order_in", "order_in", defArgs s_order_in, defBody s_order_in, defScope s_order_in, [], []⟩
def d_order_by : He.DefD := ⟨("order_by", none), "order_by", "order_by", defArgs s_order_by, defBody s_order_by, defScope s_order_by, [], []⟩
def d_product_of : He.DefD := ⟨("product_of", none), "product_of", "product_of", defArgs s_product_of, defBody s_product_of, defScope s_product_of, [], []⟩
def d_orders_of_tree : He.DefD := ⟨("orders_of_tree", none), "orders_of_tree", "orders_of_tree", defArgs s_orders_of_tree, defBody s_orders_of_tree, defScope s_orders_of_tree, [], []⟩
def d_tree_in : He.DefD := ⟨("tree_in", none), "tree_in", "tree_in", defArgs s_tree_in, defBody s_tree_in, defScope s_tree_in, [], []⟩
def d_tree_of : He.DefD := ⟨("tree_of", none), "tree_of", "tree_of", defArgs s_tree_of, defBody s_tree_of, defScope s_tree_of, [], []⟩
def d_forest_of : He.DefD := ⟨("forest_of", none), "forest_of", "forest_of", defArgs s_forest_of, defBody s_forest_of, defScope s_forest_of, [], []⟩
def d_two_forests : He.DefD := ⟨("two_forests", none), "two_forests", "two_forests", defArgs s_two_forests, defBody s_two_forests, defScope s_two_forests, [], []⟩
def d_are_one : He.DefD := ⟨("are_one", none), "are_one", "are_one", defArgs s_are_one, defBody s_are_one, defScope s_are_one, [], []⟩
def d_how_many_one : He.DefD := ⟨("how_many_one", none), "how_many_one", "how_many_one", defArgs s_how_many_one, defBody s_how_many_one, defScope s_how_many_one, [], []⟩
def d_exchanged : He.DefD := ⟨("exchanged", none), "exchanged", "exchanged", defArgs s_exchanged, defBody s_exchanged, defScope s_exchanged, [], []⟩
def d_exchange_row : He.DefD := ⟨("exchange_row", none), "exchange_row", "exchange_row", defArgs s_exchange_row, defBody s_exchange_row, defScope s_exchange_row, [], []⟩
def d_far_apart : He.DefD := ⟨("far_apart", none), "far_apart", "far_apart", defArgs s_far_apart, defBody s_far_apart, defScope s_far_apart, [], []⟩
def d_Lbegun : He.DefD := ⟨("_law_begun", none), "_law_begun", "_law_begun", defArgs s_Lbegun, defBody s_Lbegun, defScope s_Lbegun, [], []⟩
def d_Ltake : He.DefD := ⟨("_law_take", none), "_law_take", "_law_take", defArgs s_Ltake, defBody s_Ltake, defScope s_Ltake, [], []⟩
def d_Lof : He.DefD := ⟨("_law_of", none), "_law_of", "_law_of", defArgs s_Lof, defBody s_Lof, defScope s_Lof, [], []⟩
def d_Lletters : He.DefD := ⟨("_law_letters", none), "_law_letters", "_law_letters", defArgs s_Lletters, defBody s_Lletters, defScope s_Lletters, [], []⟩
def d_Lword : He.DefD := ⟨("_law_word", none), "_law_word", "_law_word", defArgs s_Lword, defBody s_Lword, defScope s_Lword, [], []⟩
def d_Lbook : He.DefD := ⟨("_law_book", none), "_law_book", "_law_book", defArgs s_Lbook, defBody s_Lbook, defScope s_Lbook, [], []⟩
def d_Lsign : He.DefD := ⟨("_law_sign", none), "_law_sign", "_law_sign", defArgs s_Lsign, defBody s_Lsign, defScope s_Lsign, [], []⟩
def d_Lfits : He.DefD := ⟨("_law_fits", none), "_law_fits", "_law_fits", defArgs s_Lfits, defBody s_Lfits, defScope s_Lfits, [], []⟩
def d_Lopen : He.DefD := ⟨("_law_open", none), "_law_open", "_law_open", defArgs s_Lopen, defBody s_Lopen, defScope s_Lopen, [], []⟩
def d_Lwithout : He.DefD := ⟨("_law_without", none), "_law_without", "_law_without", defArgs s_Lwithout, defBody s_Lwithout, defScope s_Lwithout, [], []⟩
def d_Lstruck : He.DefD := ⟨("_law_struck", none), "_law_struck", "_law_struck", defArgs s_Lstruck, defBody s_Lstruck, defScope s_Lstruck, [], []⟩
def d_Lgaps : He.DefD := ⟨("_law_gaps", none), "_law_gaps", "_law_gaps", defArgs s_Lgaps, defBody s_Lgaps, defScope s_Lgaps, [], []⟩
def d_Lwoven : He.DefD := ⟨("_law_woven", none), "_law_woven", "_law_woven", defArgs s_Lwoven, defBody s_Lwoven, defScope s_Lwoven, [], []⟩
def d_Lpairs : He.DefD := ⟨("_law_pairs", none), "_law_pairs", "_law_pairs", defArgs s_Lpairs, defBody s_Lpairs, defScope s_Lpairs, [], []⟩
def d_Lheap : He.DefD := ⟨("_law_heap", none), "_law_heap", "_law_heap", defArgs s_Lheap, defBody s_Lheap, defScope s_Lheap, [], []⟩
def d_Lways : He.DefD := ⟨("_law_ways", none), "_law_ways", "_law_ways", defArgs s_Lways, defBody s_Lways, defScope s_Lways, [], []⟩
def d_Lright : He.DefD := ⟨("_law_right", none), "_law_right", "_law_right", defArgs s_Lright, defBody s_Lright, defScope s_Lright, [], []⟩
def d_Lmany_right : He.DefD := ⟨("_law_many_right", none), "_law_many_right", "_law_many_right", defArgs s_Lmany_right, defBody s_Lmany_right, defScope s_Lmany_right, [], []⟩
def d_law : He.DefD := ⟨("law", none), "law", "law", defArgs s_law, defBody s_law, defScope s_law, [], []⟩
def fn0 : List He.DefD := [d_is_whole, d_is_letter, d_need_word, d_is_side, d_rule_looks, d_need_book, d_fits_case, d_price_there, d_letter_at, d_need_ring, d_need_order, d_Line_init, d_Line_need_standing, d_Line_sides_of, d_Line_price_of, d_Line_strike, d_Line_standing, d_Line_paid, d_gone_along, d_run, d_Fits_init, d_Fits_cost, d_Gaps_init, d_Gaps_cost, d_Gaps_is_open, d_Gaps_look, d_Gaps_look_within, d_need_gap, d_need_all, d_gaps_within]
def fn1 : List He.DefD := [d_met_parts, d_is_part, d_parts_by_form, d_tree_places, d_all_rows, d_times_over, d_Sums_init, d_Sums_lasts, d_Sums_orders_with, d_Sums_sum_up, d_sums_of, d_how_many_orders, d_times_at, d_order_in, d_order_by, d_product_of, d_orders_of_tree, d_tree_in, d_tree_of, d_forest_of, d_two_forests, d_are_one, d_how_many_one, d_exchanged, d_exchange_row, d_far_apart, d_Lbegun, d_Ltake, d_Lof, d_Lletters]
def fn2 : List He.DefD := [d_Lword, d_Lbook, d_Lsign, d_Lfits, d_Lopen, d_Lwithout, d_Lstruck, d_Lgaps, d_Lwoven, d_Lpairs, d_Lheap, d_Lways, d_Lright, d_Lmany_right, d_law]
def fn : List He.DefD := fn0 ++ fn1 ++ fn2
def fa0 : List He.Fa := [.int "MOST_WORD" 120, .int "MOST_RULES" 80, .int "MOST_PRICE" 999, .str "LETTERS" "abcdefghijklmnopqrstuvwxyz", .str "ANY_SIGN" "*", .str "FIRST_END" "<", .str "LAST_END" ">", .str "BEFORE" "<", .str "BEHIND" ">", .free "isinstance", .free "len", .free "enumerate", .free "all", .free "set", .free "list", .free "range", .free "tuple", .free "sum", .free "min", .free "abs", .free "zip", .free "int", .free "str", .free "bool", .free "sorted", .free "divmod", .free "repr", .glo "is_whole", .glo "is_letter", .glo "need_word"]
def fa1 : List He.Fa := [.glo "is_side", .glo "rule_looks", .glo "need_book", .glo "fits_case", .glo "price_there", .glo "letter_at", .glo "need_ring", .glo "need_order", .glo "gone_along", .glo "run", .glo "need_gap", .glo "need_all", .glo "gaps_within", .glo "met_parts", .glo "is_part", .glo "parts_by_form", .glo "tree_places", .glo "all_rows", .glo "times_over", .glo "sums_of", .glo "how_many_orders", .glo "times_at", .glo "order_in", .glo "order_by", .glo "product_of", .glo "orders_of_tree", .glo "tree_in", .glo "tree_of", .glo "forest_of", .glo "two_forests"]
def fa2 : List He.Fa := [.glo "are_one", .glo "how_many_one", .glo "exchanged", .glo "exchange_row", .glo "far_apart", .glo "_law_begun", .glo "_law_take", .glo "_law_of", .glo "_law_letters", .glo "_law_word", .glo "_law_book", .glo "_law_sign", .glo "_law_fits", .glo "_law_open", .glo "_law_without", .glo "_law_struck", .glo "_law_gaps", .glo "_law_woven", .glo "_law_pairs", .glo "_law_heap", .glo "_law_ways", .glo "_law_right", .glo "_law_many_right", .glo "law", .glo "Line", .cls "Line", .mkr "Line", .noat "Line" "row_word", .noat "Line" "row_book", .noat "Line" "row_is_ring"]
def fa3 : List He.Fa := [.noat "Line" "row_standing", .noat "Line" "row_gone", .meth "Line" "need_standing", .meth "Line" "sides_of", .meth "Line" "price_of", .meth "Line" "strike", .meth "Line" "standing", .meth "Line" "paid", .glo "Fits", .cls "Fits", .mkr "Fits", .noat "Fits" "own_rules", .noat "Fits" "own_costs", .meth "Fits" "cost", .glo "Gaps", .cls "Gaps", .mkr "Gaps", .noat "Gaps" "own_word", .noat "Gaps" "own_fits", .noat "Gaps" "own_roots", .meth "Gaps" "cost", .meth "Gaps" "is_open", .meth "Gaps" "look", .meth "Gaps" "look_within", .glo "Sums", .cls "Sums", .mkr "Sums", .noat "Sums" "gaps_by", .noat "Sums" "rows_by", .noat "Sums" "orders_by"]
def fa4 : List He.Fa := [.noat "Sums" "trees_by", .meth "Sums" "lasts", .meth "Sums" "orders_with", .meth "Sums" "sum_up"]
def fa : List He.Fa := fa0 ++ fa1 ++ fa2 ++ fa3 ++ fa4
def loose0 : List Str := ["_wall", "StrikeError", "BadWord", "BadBook", "BadOrder", "BadPaper", "Lack", "NoSuch", "Cant", "Bars", "BadKind", "BadNumber", "MOST_WORD", "LETTERS", "is_whole", "is_letter", "need_word", "MOST_RULES", "MOST_PRICE", "ANY_SIGN", "FIRST_END", "LAST_END", "is_side", "rule_looks", "need_book", "fits_case", "price_there", "letter_at", "need_ring", "need_order"]
def loose1 : List Str := ["Line", "gone_along", "run", "BEFORE", "BEHIND", "Fits", "Gaps", "need_gap", "need_all", "gaps_within", "met_parts", "is_part", "parts_by_form", "tree_places", "all_rows", "times_over", "Sums", "sums_of", "how_many_orders", "times_at", "order_in", "order_by", "product_of", "orders_of_tree", "tree_in", "tree_of", "forest_of", "two_forests", "are_one", "how_many_one"]
def loose2 : List Str := ["exchanged", "exchange_row", "far_apart", "_law_begun", "_law_take", "_law_of", "_law_letters", "_law_word", "_law_book", "_law_sign", "_law_fits", "_law_open", "_law_without", "_law_struck", "_law_gaps", "_law_woven", "_law_pairs", "_law_heap", "_law_ways", "_law_right", "_law_many_right"]
def loose : List Str := loose0 ++ loose1 ++ loose2
end Sl
/-! SlHead -/
set_option maxHeartbeats 0
namespace Sl
open PySem PySem.Spec PyProof.Rows L2
abbrev R : PySem.W.OpenRow := PySem.W.OpenLaw.row PySem.Challenge.rw_strikeline_k38_whole_gaps_woven
/-- the objects at which the facts stand: the module's names, the classes and their names, the defs and what they name -/
def as0 : List Addr := [3, 418, 459, 513, 614, 417, 458, 512, 613, 222, 229, 236, 243, 250, 257, 264, 269, 276, 283, 288, 303, 310, 317, 322, 329, 357, 372, 429, 437, 451, 456, 477, 484, 491, 496, 503, 524, 531, 538, 545, 552, 559, 564, 571, 578, 592, 599, 606, 611, 625, 632, 639, 644, 651, 658, 665, 670, 675, 680, 687, 694, 701, 706, 713, 720, 727, 734, 741, 746, 751, 758, 765, 772, 779, 784, 791, 796, 801, 806, 811, 818, 823, 828, 835, 221, 215, 228, 235, 242, 249]
def as1 : List Addr := [256, 263, 268, 275, 282, 287, 302, 296, 309, 316, 321, 328, 356, 371, 428, 436, 430, 450, 455, 476, 483, 490, 495, 502, 523, 530, 537, 544, 551, 558, 563, 570, 577, 591, 598, 605, 610, 624, 631, 638, 643, 650, 657, 664, 669, 674, 679, 686, 693, 700, 705, 712, 719, 726, 733, 740, 745, 750, 757, 764, 771, 778, 783, 790, 795, 800, 805, 810, 817, 822, 827, 834]
def hk : PySem.W.Hook where
  α := He.AlD
  obs := fun s => He.obsD fa fn (He.frG s.heap.get? (as0 ++ as1))
  val := fun _ => He.valD fn
  says := fun _ h => ∃ K : PySem.W.Frag, K.In h ∧ He.SaysD fa fn K
  of := fun _ _ e => ⟨_, He.frG_in, e⟩
  keeps := fun _ _ _ ⟨K, hK, c⟩ k => ⟨K, PySem.W.Frag.In.keeps hK k, c⟩
def ob (s : PySem.W.SharedT) : He.AlD := He.obsD fa fn (He.frG (HandSHeadRun.getT s) (as0 ++ as1))
theorem ob_eq (s : PySem.W.SharedT) : ob s = hk.obs s.abs := by
  have e : HandSHeadRun.getT s = s.abs.heap.get? := funext fun a => HandSHeadRun.getT_eq s a
  unfold ob
  rw [e]
  rfl
theorem run (w : World) : HandSHeadRun.RunEq R (PySem.W.view R.prog [89]) hk ob 9000 loose w := by
  intro os
  kernel_rfl
end Sl
/-! SlFacts -/
namespace Sl
open PySem PySem.Spec PyProof.Rows L2
/-- the world at hand -/
structure Wd where
  P : Program
  w : World
  K : PySem.W.Frag
  mg : Str → Option Value
  base : Heap
/-- what the head tells of it -/
structure Hd (W : Wd) : Prop where
  s : He.SaysD fa fn W.K
  g : ∃ h : Heap, W.K.In h ∧ h.Ns mainGlobals W.mg
section
variable {W : Wd} (Z : Hd W)
include Z
theorem Hd.glo (i : Nat) {x : Str} (h : fa[i]? = some (.glo x) := by rfl) : W.mg x = some (.ref (He.ga W.K x)) := by
  obtain ⟨_, X, G⟩ := Z.g
  exact He.glo_ok X G (Z.s.fact i h)
theorem Hd.free (i : Nat) {x : Str} (h : fa[i]? = some (.free x) := by rfl) : W.mg x = none := by
  obtain ⟨_, X, G⟩ := Z.g
  exact He.free_ok X G (Z.s.fact i h)
theorem Hd.int (i : Nat) {x : Str} {j : Int} (h : fa[i]? = some (.int x j) := by rfl) : ∃ t, W.mg x = some (.int j t) := by
  obtain ⟨_, X, G⟩ := Z.g
  exact He.int_ok X G (Z.s.fact i h)
theorem Hd.str (i : Nat) {x z : Str} (h : fa[i]? = some (.str x z) := by rfl) : ∃ t, W.mg x = some (.str z t) := by
  obtain ⟨_, X, G⟩ := Z.g
  exact He.str_ok X G (Z.s.fact i h)
theorem Hd.k_MOST_WORD : ∃ t, W.mg "MOST_WORD" = some (.int 120 t) := Z.int 0
theorem Hd.k_MOST_RULES : ∃ t, W.mg "MOST_RULES" = some (.int 80 t) := Z.int 1
theorem Hd.k_MOST_PRICE : ∃ t, W.mg "MOST_PRICE" = some (.int 999 t) := Z.int 2
theorem Hd.k_LETTERS : ∃ t, W.mg "LETTERS" = some (.str "abcdefghijklmnopqrstuvwxyz" t) := Z.str 3
theorem Hd.k_ANY_SIGN : ∃ t, W.mg "ANY_SIGN" = some (.str "*" t) := Z.str 4
theorem Hd.k_FIRST_END : ∃ t, W.mg "FIRST_END" = some (.str "<" t) := Z.str 5
theorem Hd.k_LAST_END : ∃ t, W.mg "LAST_END" = some (.str ">" t) := Z.str 6
theorem Hd.k_BEFORE : ∃ t, W.mg "BEFORE" = some (.str "<" t) := Z.str 7
theorem Hd.k_BEHIND : ∃ t, W.mg "BEHIND" = some (.str ">" t) := Z.str 8
theorem Hd.m_isinstance : W.mg "isinstance" = none := Z.free 9
theorem Hd.m_len : W.mg "len" = none := Z.free 10
theorem Hd.m_enumerate : W.mg "enumerate" = none := Z.free 11
theorem Hd.m_all : W.mg "all" = none := Z.free 12
theorem Hd.m_set : W.mg "set" = none := Z.free 13
theorem Hd.m_list : W.mg "list" = none := Z.free 14
theorem Hd.m_range : W.mg "range" = none := Z.free 15
theorem Hd.m_tuple : W.mg "tuple" = none := Z.free 16
theorem Hd.m_sum : W.mg "sum" = none := Z.free 17
theorem Hd.m_min : W.mg "min" = none := Z.free 18
theorem Hd.m_abs : W.mg "abs" = none := Z.free 19
theorem Hd.m_zip : W.mg "zip" = none := Z.free 20
theorem Hd.m_int : W.mg "int" = none := Z.free 21
theorem Hd.m_str : W.mg "str" = none := Z.free 22
theorem Hd.m_bool : W.mg "bool" = none := Z.free 23
theorem Hd.m_sorted : W.mg "sorted" = none := Z.free 24
theorem Hd.m_divmod : W.mg "divmod" = none := Z.free 25
theorem Hd.m_repr : W.mg "repr" = none := Z.free 26
theorem Hd.g_is_whole : W.mg "is_whole" = some (.ref (He.ga W.K "is_whole")) := Z.glo 27
theorem Hd.g_is_letter : W.mg "is_letter" = some (.ref (He.ga W.K "is_letter")) := Z.glo 28
theorem Hd.g_need_word : W.mg "need_word" = some (.ref (He.ga W.K "need_word")) := Z.glo 29
theorem Hd.g_is_side : W.mg "is_side" = some (.ref (He.ga W.K "is_side")) := Z.glo 30
theorem Hd.g_rule_looks : W.mg "rule_looks" = some (.ref (He.ga W.K "rule_looks")) := Z.glo 31
theorem Hd.g_need_book : W.mg "need_book" = some (.ref (He.ga W.K "need_book")) := Z.glo 32
theorem Hd.g_fits_case : W.mg "fits_case" = some (.ref (He.ga W.K "fits_case")) := Z.glo 33
theorem Hd.g_price_there : W.mg "price_there" = some (.ref (He.ga W.K "price_there")) := Z.glo 34
theorem Hd.g_letter_at : W.mg "letter_at" = some (.ref (He.ga W.K "letter_at")) := Z.glo 35
theorem Hd.g_need_ring : W.mg "need_ring" = some (.ref (He.ga W.K "need_ring")) := Z.glo 36
theorem Hd.g_need_order : W.mg "need_order" = some (.ref (He.ga W.K "need_order")) := Z.glo 37
theorem Hd.g_gone_along : W.mg "gone_along" = some (.ref (He.ga W.K "gone_along")) := Z.glo 38
theorem Hd.g_run : W.mg "run" = some (.ref (He.ga W.K "run")) := Z.glo 39
theorem Hd.g_need_gap : W.mg "need_gap" = some (.ref (He.ga W.K "need_gap")) := Z.glo 40
theorem Hd.g_need_all : W.mg "need_all" = some (.ref (He.ga W.K "need_all")) := Z.glo 41
theorem Hd.g_gaps_within : W.mg "gaps_within" = some (.ref (He.ga W.K "gaps_within")) := Z.glo 42
theorem Hd.g_met_parts : W.mg "met_parts" = some (.ref (He.ga W.K "met_parts")) := Z.glo 43
theorem Hd.g_is_part : W.mg "is_part" = some (.ref (He.ga W.K "is_part")) := Z.glo 44
theorem Hd.g_parts_by_form : W.mg "parts_by_form" = some (.ref (He.ga W.K "parts_by_form")) := Z.glo 45
theorem Hd.g_tree_places : W.mg "tree_places" = some (.ref (He.ga W.K "tree_places")) := Z.glo 46
theorem Hd.g_all_rows : W.mg "all_rows" = some (.ref (He.ga W.K "all_rows")) := Z.glo 47
theorem Hd.g_times_over : W.mg "times_over" = some (.ref (He.ga W.K "times_over")) := Z.glo 48
theorem Hd.g_sums_of : W.mg "sums_of" = some (.ref (He.ga W.K "sums_of")) := Z.glo 49
theorem Hd.g_how_many_orders : W.mg "how_many_orders" = some (.ref (He.ga W.K "how_many_orders")) := Z.glo 50
theorem Hd.g_times_at : W.mg "times_at" = some (.ref (He.ga W.K "times_at")) := Z.glo 51
theorem Hd.g_order_in : W.mg "order_in" = some (.ref (He.ga W.K "order_in")) := Z.glo 52
theorem Hd.g_order_by : W.mg "order_by" = some (.ref (He.ga W.K "order_by")) := Z.glo 53
theorem Hd.g_product_of : W.mg "product_of" = some (.ref (He.ga W.K "product_of")) := Z.glo 54
theorem Hd.g_orders_of_tree : W.mg "orders_of_tree" = some (.ref (He.ga W.K "orders_of_tree")) := Z.glo 55
theorem Hd.g_tree_in : W.mg "tree_in" = some (.ref (He.ga W.K "tree_in")) := Z.glo 56
theorem Hd.g_tree_of : W.mg "tree_of" = some (.ref (He.ga W.K "tree_of")) := Z.glo 57
theorem Hd.g_forest_of : W.mg "forest_of" = some (.ref (He.ga W.K "forest_of")) := Z.glo 58
theorem Hd.g_two_forests : W.mg "two_forests" = some (.ref (He.ga W.K "two_forests")) := Z.glo 59
theorem Hd.g_are_one : W.mg "are_one" = some (.ref (He.ga W.K "are_one")) := Z.glo 60
theorem Hd.g_how_many_one : W.mg "how_many_one" = some (.ref (He.ga W.K "how_many_one")) := Z.glo 61
theorem Hd.g_exchanged : W.mg "exchanged" = some (.ref (He.ga W.K "exchanged")) := Z.glo 62
theorem Hd.g_exchange_row : W.mg "exchange_row" = some (.ref (He.ga W.K "exchange_row")) := Z.glo 63
theorem Hd.g_far_apart : W.mg "far_apart" = some (.ref (He.ga W.K "far_apart")) := Z.glo 64
theorem Hd.g_law_begun : W.mg "_law_begun" = some (.ref (He.ga W.K "_law_begun")) := Z.glo 65
theorem Hd.g_law_take : W.mg "_law_take" = some (.ref (He.ga W.K "_law_take")) := Z.glo 66
theorem Hd.g_law_of : W.mg "_law_of" = some (.ref (He.ga W.K "_law_of")) := Z.glo 67
theorem Hd.g_law_letters : W.mg "_law_letters" = some (.ref (He.ga W.K "_law_letters")) := Z.glo 68
theorem Hd.g_law_word : W.mg "_law_word" = some (.ref (He.ga W.K "_law_word")) := Z.glo 69
theorem Hd.g_law_book : W.mg "_law_book" = some (.ref (He.ga W.K "_law_book")) := Z.glo 70
theorem Hd.g_law_sign : W.mg "_law_sign" = some (.ref (He.ga W.K "_law_sign")) := Z.glo 71
theorem Hd.g_law_fits : W.mg "_law_fits" = some (.ref (He.ga W.K "_law_fits")) := Z.glo 72
theorem Hd.g_law_open : W.mg "_law_open" = some (.ref (He.ga W.K "_law_open")) := Z.glo 73
theorem Hd.g_law_without : W.mg "_law_without" = some (.ref (He.ga W.K "_law_without")) := Z.glo 74
theorem Hd.g_law_struck : W.mg "_law_struck" = some (.ref (He.ga W.K "_law_struck")) := Z.glo 75
theorem Hd.g_law_gaps : W.mg "_law_gaps" = some (.ref (He.ga W.K "_law_gaps")) := Z.glo 76
theorem Hd.g_law_woven : W.mg "_law_woven" = some (.ref (He.ga W.K "_law_woven")) := Z.glo 77
theorem Hd.g_law_pairs : W.mg "_law_pairs" = some (.ref (He.ga W.K "_law_pairs")) := Z.glo 78
theorem Hd.g_law_heap : W.mg "_law_heap" = some (.ref (He.ga W.K "_law_heap")) := Z.glo 79
theorem Hd.g_law_ways : W.mg "_law_ways" = some (.ref (He.ga W.K "_law_ways")) := Z.glo 80
theorem Hd.g_law_right : W.mg "_law_right" = some (.ref (He.ga W.K "_law_right")) := Z.glo 81
theorem Hd.g_law_many_right : W.mg "_law_many_right" = some (.ref (He.ga W.K "_law_many_right")) := Z.glo 82
theorem Hd.g_law : W.mg "law" = some (.ref (He.ga W.K "law")) := Z.glo 83
theorem Hd.g_Line : W.mg "Line" = some (.ref (He.ga W.K "Line")) := Z.glo 84
theorem Hd.c_Line : Cls W.K (He.ga W.K "Line") := He.cls_ok (Z.s.fact 85)
theorem Hd.mk_Line : Mk W.K (He.ga W.K "Line") (He.ma W.K (He.ga W.K "Line") "__init__") := He.mkr_ok (Z.s.fact 86)
theorem Hd.n_row_word : NoAttr W.K (He.ga W.K "Line") "row_word" := He.noat_ok (Z.s.fact 87)
theorem Hd.n_row_book : NoAttr W.K (He.ga W.K "Line") "row_book" := He.noat_ok (Z.s.fact 88)
theorem Hd.n_row_is_ring : NoAttr W.K (He.ga W.K "Line") "row_is_ring" := He.noat_ok (Z.s.fact 89)
theorem Hd.n_row_standing : NoAttr W.K (He.ga W.K "Line") "row_standing" := He.noat_ok (Z.s.fact 90)
theorem Hd.n_row_gone : NoAttr W.K (He.ga W.K "Line") "row_gone" := He.noat_ok (Z.s.fact 91)
theorem Hd.t_Line_need_standing : Meth W.K (He.ga W.K "Line") "need_standing" (He.ma W.K (He.ga W.K "Line") "need_standing") := He.meth_ok (Z.s.fact 92)
theorem Hd.t_Line_sides_of : Meth W.K (He.ga W.K "Line") "sides_of" (He.ma W.K (He.ga W.K "Line") "sides_of") := He.meth_ok (Z.s.fact 93)
theorem Hd.t_Line_price_of : Meth W.K (He.ga W.K "Line") "price_of" (He.ma W.K (He.ga W.K "Line") "price_of") := He.meth_ok (Z.s.fact 94)
theorem Hd.t_Line_strike : Meth W.K (He.ga W.K "Line") "strike" (He.ma W.K (He.ga W.K "Line") "strike") := He.meth_ok (Z.s.fact 95)
theorem Hd.t_Line_standing : Meth W.K (He.ga W.K "Line") "standing" (He.ma W.K (He.ga W.K "Line") "standing") := He.meth_ok (Z.s.fact 96)
theorem Hd.t_Line_paid : Meth W.K (He.ga W.K "Line") "paid" (He.ma W.K (He.ga W.K "Line") "paid") := He.meth_ok (Z.s.fact 97)
theorem Hd.g_Fits : W.mg "Fits" = some (.ref (He.ga W.K "Fits")) := Z.glo 98
theorem Hd.c_Fits : Cls W.K (He.ga W.K "Fits") := He.cls_ok (Z.s.fact 99)
theorem Hd.mk_Fits : Mk W.K (He.ga W.K "Fits") (He.ma W.K (He.ga W.K "Fits") "__init__") := He.mkr_ok (Z.s.fact 100)
theorem Hd.n_own_rules : NoAttr W.K (He.ga W.K "Fits") "own_rules" := He.noat_ok (Z.s.fact 101)
theorem Hd.n_own_costs : NoAttr W.K (He.ga W.K "Fits") "own_costs" := He.noat_ok (Z.s.fact 102)
theorem Hd.t_Fits_cost : Meth W.K (He.ga W.K "Fits") "cost" (He.ma W.K (He.ga W.K "Fits") "cost") := He.meth_ok (Z.s.fact 103)
theorem Hd.g_Gaps : W.mg "Gaps" = some (.ref (He.ga W.K "Gaps")) := Z.glo 104
theorem Hd.c_Gaps : Cls W.K (He.ga W.K "Gaps") := He.cls_ok (Z.s.fact 105)
theorem Hd.mk_Gaps : Mk W.K (He.ga W.K "Gaps") (He.ma W.K (He.ga W.K "Gaps") "__init__") := He.mkr_ok (Z.s.fact 106)
theorem Hd.n_own_word : NoAttr W.K (He.ga W.K "Gaps") "own_word" := He.noat_ok (Z.s.fact 107)
theorem Hd.n_own_fits : NoAttr W.K (He.ga W.K "Gaps") "own_fits" := He.noat_ok (Z.s.fact 108)
theorem Hd.n_own_roots : NoAttr W.K (He.ga W.K "Gaps") "own_roots" := He.noat_ok (Z.s.fact 109)
theorem Hd.t_Gaps_cost : Meth W.K (He.ga W.K "Gaps") "cost" (He.ma W.K (He.ga W.K "Gaps") "cost") := He.meth_ok (Z.s.fact 110)
theorem Hd.t_Gaps_is_open : Meth W.K (He.ga W.K "Gaps") "is_open" (He.ma W.K (He.ga W.K "Gaps") "is_open") := He.meth_ok (Z.s.fact 111)
theorem Hd.t_Gaps_look : Meth W.K (He.ga W.K "Gaps") "look" (He.ma W.K (He.ga W.K "Gaps") "look") := He.meth_ok (Z.s.fact 112)
theorem Hd.t_Gaps_look_within : Meth W.K (He.ga W.K "Gaps") "look_within" (He.ma W.K (He.ga W.K "Gaps") "look_within") := He.meth_ok (Z.s.fact 113)
theorem Hd.g_Sums : W.mg "Sums" = some (.ref (He.ga W.K "Sums")) := Z.glo 114
theorem Hd.c_Sums : Cls W.K (He.ga W.K "Sums") := He.cls_ok (Z.s.fact 115)
theorem Hd.mk_Sums : Mk W.K (He.ga W.K "Sums") (He.ma W.K (He.ga W.K "Sums") "__init__") := He.mkr_ok (Z.s.fact 116)
theorem Hd.n_gaps_by : NoAttr W.K (He.ga W.K "Sums") "gaps_by" := He.noat_ok (Z.s.fact 117)
theorem Hd.n_rows_by : NoAttr W.K (He.ga W.K "Sums") "rows_by" := He.noat_ok (Z.s.fact 118)
theorem Hd.n_orders_by : NoAttr W.K (He.ga W.K "Sums") "orders_by" := He.noat_ok (Z.s.fact 119)
theorem Hd.n_trees_by : NoAttr W.K (He.ga W.K "Sums") "trees_by" := He.noat_ok (Z.s.fact 120)
theorem Hd.t_Sums_lasts : Meth W.K (He.ga W.K "Sums") "lasts" (He.ma W.K (He.ga W.K "Sums") "lasts") := He.meth_ok (Z.s.fact 121)
theorem Hd.t_Sums_orders_with : Meth W.K (He.ga W.K "Sums") "orders_with" (He.ma W.K (He.ga W.K "Sums") "orders_with") := He.meth_ok (Z.s.fact 122)
theorem Hd.t_Sums_sum_up : Meth W.K (He.ga W.K "Sums") "sum_up" (He.ma W.K (He.ga W.K "Sums") "sum_up") := He.meth_ok (Z.s.fact 123)
theorem Hd.d_is_whole : ∃ fd, FunD W.K d_is_whole.name d_is_whole.qual d_is_whole.params d_is_whole.body d_is_whole.scope (d_is_whole.dvs W.K) (d_is_whole.kws W.K) (He.fAd W.K d_is_whole.at_) fd := Z.s.def_ 0
theorem Hd.d_is_letter : ∃ fd, FunD W.K d_is_letter.name d_is_letter.qual d_is_letter.params d_is_letter.body d_is_letter.scope (d_is_letter.dvs W.K) (d_is_letter.kws W.K) (He.fAd W.K d_is_letter.at_) fd := Z.s.def_ 1
theorem Hd.d_need_word : ∃ fd, FunD W.K d_need_word.name d_need_word.qual d_need_word.params d_need_word.body d_need_word.scope (d_need_word.dvs W.K) (d_need_word.kws W.K) (He.fAd W.K d_need_word.at_) fd := Z.s.def_ 2
theorem Hd.d_is_side : ∃ fd, FunD W.K d_is_side.name d_is_side.qual d_is_side.params d_is_side.body d_is_side.scope (d_is_side.dvs W.K) (d_is_side.kws W.K) (He.fAd W.K d_is_side.at_) fd := Z.s.def_ 3
theorem Hd.d_rule_looks : ∃ fd, FunD W.K d_rule_looks.name d_rule_looks.qual d_rule_looks.params d_rule_looks.body d_rule_looks.scope (d_rule_looks.dvs W.K) (d_rule_looks.kws W.K) (He.fAd W.K d_rule_looks.at_) fd := Z.s.def_ 4
theorem Hd.d_need_book : ∃ fd, FunD W.K d_need_book.name d_need_book.qual d_need_book.params d_need_book.body d_need_book.scope (d_need_book.dvs W.K) (d_need_book.kws W.K) (He.fAd W.K d_need_book.at_) fd := Z.s.def_ 5
theorem Hd.d_fits_case : ∃ fd, FunD W.K d_fits_case.name d_fits_case.qual d_fits_case.params d_fits_case.body d_fits_case.scope (d_fits_case.dvs W.K) (d_fits_case.kws W.K) (He.fAd W.K d_fits_case.at_) fd := Z.s.def_ 6
theorem Hd.d_price_there : ∃ fd, FunD W.K d_price_there.name d_price_there.qual d_price_there.params d_price_there.body d_price_there.scope (d_price_there.dvs W.K) (d_price_there.kws W.K) (He.fAd W.K d_price_there.at_) fd := Z.s.def_ 7
theorem Hd.d_letter_at : ∃ fd, FunD W.K d_letter_at.name d_letter_at.qual d_letter_at.params d_letter_at.body d_letter_at.scope (d_letter_at.dvs W.K) (d_letter_at.kws W.K) (He.fAd W.K d_letter_at.at_) fd := Z.s.def_ 8
theorem Hd.d_need_ring : ∃ fd, FunD W.K d_need_ring.name d_need_ring.qual d_need_ring.params d_need_ring.body d_need_ring.scope (d_need_ring.dvs W.K) (d_need_ring.kws W.K) (He.fAd W.K d_need_ring.at_) fd := Z.s.def_ 9
theorem Hd.d_need_order : ∃ fd, FunD W.K d_need_order.name d_need_order.qual d_need_order.params d_need_order.body d_need_order.scope (d_need_order.dvs W.K) (d_need_order.kws W.K) (He.fAd W.K d_need_order.at_) fd := Z.s.def_ 10
theorem Hd.d_Line_init : ∃ fd, FunD W.K d_Line_init.name d_Line_init.qual d_Line_init.params d_Line_init.body d_Line_init.scope (d_Line_init.dvs W.K) (d_Line_init.kws W.K) (He.fAd W.K d_Line_init.at_) fd := Z.s.def_ 11
theorem Hd.d_Line_need_standing : ∃ fd, FunD W.K d_Line_need_standing.name d_Line_need_standing.qual d_Line_need_standing.params d_Line_need_standing.body d_Line_need_standing.scope (d_Line_need_standing.dvs W.K) (d_Line_need_standing.kws W.K) (He.fAd W.K d_Line_need_standing.at_) fd := Z.s.def_ 12
theorem Hd.d_Line_sides_of : ∃ fd, FunD W.K d_Line_sides_of.name d_Line_sides_of.qual d_Line_sides_of.params d_Line_sides_of.body d_Line_sides_of.scope (d_Line_sides_of.dvs W.K) (d_Line_sides_of.kws W.K) (He.fAd W.K d_Line_sides_of.at_) fd := Z.s.def_ 13
theorem Hd.d_Line_price_of : ∃ fd, FunD W.K d_Line_price_of.name d_Line_price_of.qual d_Line_price_of.params d_Line_price_of.body d_Line_price_of.scope (d_Line_price_of.dvs W.K) (d_Line_price_of.kws W.K) (He.fAd W.K d_Line_price_of.at_) fd := Z.s.def_ 14
theorem Hd.d_Line_strike : ∃ fd, FunD W.K d_Line_strike.name d_Line_strike.qual d_Line_strike.params d_Line_strike.body d_Line_strike.scope (d_Line_strike.dvs W.K) (d_Line_strike.kws W.K) (He.fAd W.K d_Line_strike.at_) fd := Z.s.def_ 15
theorem Hd.d_Line_standing : ∃ fd, FunD W.K d_Line_standing.name d_Line_standing.qual d_Line_standing.params d_Line_standing.body d_Line_standing.scope (d_Line_standing.dvs W.K) (d_Line_standing.kws W.K) (He.fAd W.K d_Line_standing.at_) fd := Z.s.def_ 16
theorem Hd.d_Line_paid : ∃ fd, FunD W.K d_Line_paid.name d_Line_paid.qual d_Line_paid.params d_Line_paid.body d_Line_paid.scope (d_Line_paid.dvs W.K) (d_Line_paid.kws W.K) (He.fAd W.K d_Line_paid.at_) fd := Z.s.def_ 17
theorem Hd.d_gone_along : ∃ fd, FunD W.K d_gone_along.name d_gone_along.qual d_gone_along.params d_gone_along.body d_gone_along.scope (d_gone_along.dvs W.K) (d_gone_along.kws W.K) (He.fAd W.K d_gone_along.at_) fd := Z.s.def_ 18
theorem Hd.d_run : ∃ fd, FunD W.K d_run.name d_run.qual d_run.params d_run.body d_run.scope (d_run.dvs W.K) (d_run.kws W.K) (He.fAd W.K d_run.at_) fd := Z.s.def_ 19
theorem Hd.d_Fits_init : ∃ fd, FunD W.K d_Fits_init.name d_Fits_init.qual d_Fits_init.params d_Fits_init.body d_Fits_init.scope (d_Fits_init.dvs W.K) (d_Fits_init.kws W.K) (He.fAd W.K d_Fits_init.at_) fd := Z.s.def_ 20
theorem Hd.d_Fits_cost : ∃ fd, FunD W.K d_Fits_cost.name d_Fits_cost.qual d_Fits_cost.params d_Fits_cost.body d_Fits_cost.scope (d_Fits_cost.dvs W.K) (d_Fits_cost.kws W.K) (He.fAd W.K d_Fits_cost.at_) fd := Z.s.def_ 21
theorem Hd.d_Gaps_init : ∃ fd, FunD W.K d_Gaps_init.name d_Gaps_init.qual d_Gaps_init.params d_Gaps_init.body d_Gaps_init.scope (d_Gaps_init.dvs W.K) (d_Gaps_init.kws W.K) (He.fAd W.K d_Gaps_init.at_) fd := Z.s.def_ 22
theorem Hd.d_Gaps_cost : ∃ fd, FunD W.K d_Gaps_cost.name d_Gaps_cost.qual d_Gaps_cost.params d_Gaps_cost.body d_Gaps_cost.scope (d_Gaps_cost.dvs W.K) (d_Gaps_cost.kws W.K) (He.fAd W.K d_Gaps_cost.at_) fd := Z.s.def_ 23
theorem Hd.d_Gaps_is_open : ∃ fd, FunD W.K d_Gaps_is_open.name d_Gaps_is_open.qual d_Gaps_is_open.params d_Gaps_is_open.body d_Gaps_is_open.scope (d_Gaps_is_open.dvs W.K) (d_Gaps_is_open.kws W.K) (He.fAd W.K d_Gaps_is_open.at_) fd := Z.s.def_ 24
theorem Hd.d_Gaps_look : ∃ fd, FunD W.K d_Gaps_look.name d_Gaps_look.qual d_Gaps_look.params d_Gaps_look.body d_Gaps_look.scope (d_Gaps_look.dvs W.K) (d_Gaps_look.kws W.K) (He.fAd W.K d_Gaps_look.at_) fd := Z.s.def_ 25
theorem Hd.d_Gaps_look_within : ∃ fd, FunD W.K d_Gaps_look_within.name d_Gaps_look_within.qual d_Gaps_look_within.params d_Gaps_look_within.body d_Gaps_look_within.scope (d_Gaps_look_within.dvs W.K) (d_Gaps_look_within.kws W.K) (He.fAd W.K d_Gaps_look_within.at_) fd := Z.s.def_ 26
theorem Hd.d_need_gap : ∃ fd, FunD W.K d_need_gap.name d_need_gap.qual d_need_gap.params d_need_gap.body d_need_gap.scope (d_need_gap.dvs W.K) (d_need_gap.kws W.K) (He.fAd W.K d_need_gap.at_) fd := Z.s.def_ 27
theorem Hd.d_need_all : ∃ fd, FunD W.K d_need_all.name d_need_all.qual d_need_all.params d_need_all.body d_need_all.scope (d_need_all.dvs W.K) (d_need_all.kws W.K) (He.fAd W.K d_need_all.at_) fd := Z.s.def_ 28
theorem Hd.d_gaps_within : ∃ fd, FunD W.K d_gaps_within.name d_gaps_within.qual d_gaps_within.params d_gaps_within.body d_gaps_within.scope (d_gaps_within.dvs W.K) (d_gaps_within.kws W.K) (He.fAd W.K d_gaps_within.at_) fd := Z.s.def_ 29
theorem Hd.d_met_parts : ∃ fd, FunD W.K d_met_parts.name d_met_parts.qual d_met_parts.params d_met_parts.body d_met_parts.scope (d_met_parts.dvs W.K) (d_met_parts.kws W.K) (He.fAd W.K d_met_parts.at_) fd := Z.s.def_ 30
theorem Hd.d_is_part : ∃ fd, FunD W.K d_is_part.name d_is_part.qual d_is_part.params d_is_part.body d_is_part.scope (d_is_part.dvs W.K) (d_is_part.kws W.K) (He.fAd W.K d_is_part.at_) fd := Z.s.def_ 31
theorem Hd.d_parts_by_form : ∃ fd, FunD W.K d_parts_by_form.name d_parts_by_form.qual d_parts_by_form.params d_parts_by_form.body d_parts_by_form.scope (d_parts_by_form.dvs W.K) (d_parts_by_form.kws W.K) (He.fAd W.K d_parts_by_form.at_) fd := Z.s.def_ 32
theorem Hd.d_tree_places : ∃ fd, FunD W.K d_tree_places.name d_tree_places.qual d_tree_places.params d_tree_places.body d_tree_places.scope (d_tree_places.dvs W.K) (d_tree_places.kws W.K) (He.fAd W.K d_tree_places.at_) fd := Z.s.def_ 33
theorem Hd.d_all_rows : ∃ fd, FunD W.K d_all_rows.name d_all_rows.qual d_all_rows.params d_all_rows.body d_all_rows.scope (d_all_rows.dvs W.K) (d_all_rows.kws W.K) (He.fAd W.K d_all_rows.at_) fd := Z.s.def_ 34
theorem Hd.d_times_over : ∃ fd, FunD W.K d_times_over.name d_times_over.qual d_times_over.params d_times_over.body d_times_over.scope (d_times_over.dvs W.K) (d_times_over.kws W.K) (He.fAd W.K d_times_over.at_) fd := Z.s.def_ 35
theorem Hd.d_Sums_init : ∃ fd, FunD W.K d_Sums_init.name d_Sums_init.qual d_Sums_init.params d_Sums_init.body d_Sums_init.scope (d_Sums_init.dvs W.K) (d_Sums_init.kws W.K) (He.fAd W.K d_Sums_init.at_) fd := Z.s.def_ 36
theorem Hd.d_Sums_lasts : ∃ fd, FunD W.K d_Sums_lasts.name d_Sums_lasts.qual d_Sums_lasts.params d_Sums_lasts.body d_Sums_lasts.scope (d_Sums_lasts.dvs W.K) (d_Sums_lasts.kws W.K) (He.fAd W.K d_Sums_lasts.at_) fd := Z.s.def_ 37
theorem Hd.d_Sums_orders_with : ∃ fd, FunD W.K d_Sums_orders_with.name d_Sums_orders_with.qual d_Sums_orders_with.params d_Sums_orders_with.body d_Sums_orders_with.scope (d_Sums_orders_with.dvs W.K) (d_Sums_orders_with.kws W.K) (He.fAd W.K d_Sums_orders_with.at_) fd := Z.s.def_ 38
theorem Hd.d_Sums_sum_up : ∃ fd, FunD W.K d_Sums_sum_up.name d_Sums_sum_up.qual d_Sums_sum_up.params d_Sums_sum_up.body d_Sums_sum_up.scope (d_Sums_sum_up.dvs W.K) (d_Sums_sum_up.kws W.K) (He.fAd W.K d_Sums_sum_up.at_) fd := Z.s.def_ 39
theorem Hd.d_sums_of : ∃ fd, FunD W.K d_sums_of.name d_sums_of.qual d_sums_of.params d_sums_of.body d_sums_of.scope (d_sums_of.dvs W.K) (d_sums_of.kws W.K) (He.fAd W.K d_sums_of.at_) fd := Z.s.def_ 40
theorem Hd.d_how_many_orders : ∃ fd, FunD W.K d_how_many_orders.name d_how_many_orders.qual d_how_many_orders.params d_how_many_orders.body d_how_many_orders.scope (d_how_many_orders.dvs W.K) (d_how_many_orders.kws W.K) (He.fAd W.K d_how_many_orders.at_) fd := Z.s.def_ 41
theorem Hd.d_times_at : ∃ fd, FunD W.K d_times_at.name d_times_at.qual d_times_at.params d_times_at.body d_times_at.scope (d_times_at.dvs W.K) (d_times_at.kws W.K) (He.fAd W.K d_times_at.at_) fd := Z.s.def_ 42
theorem Hd.d_order_in : ∃ fd, FunD W.K d_order_in.name d_order_in.qual d_order_in.params d_order_in.body d_order_in.scope (d_order_in.dvs W.K) (d_order_in.kws W.K) (He.fAd W.K d_order_in.at_) fd := Z.s.def_ 43
theorem Hd.d_order_by : ∃ fd, FunD W.K d_order_by.name d_order_by.qual d_order_by.params d_order_by.body d_order_by.scope (d_order_by.dvs W.K) (d_order_by.kws W.K) (He.fAd W.K d_order_by.at_) fd := Z.s.def_ 44
theorem Hd.d_product_of : ∃ fd, FunD W.K d_product_of.name d_product_of.qual d_product_of.params d_product_of.body d_product_of.scope (d_product_of.dvs W.K) (d_product_of.kws W.K) (He.fAd W.K d_product_of.at_) fd := Z.s.def_ 45
theorem Hd.d_orders_of_tree : ∃ fd, FunD W.K d_orders_of_tree.name d_orders_of_tree.qual d_orders_of_tree.params d_orders_of_tree.body d_orders_of_tree.scope (d_orders_of_tree.dvs W.K) (d_orders_of_tree.kws W.K) (He.fAd W.K d_orders_of_tree.at_) fd := Z.s.def_ 46
theorem Hd.d_tree_in : ∃ fd, FunD W.K d_tree_in.name d_tree_in.qual d_tree_in.params d_tree_in.body d_tree_in.scope (d_tree_in.dvs W.K) (d_tree_in.kws W.K) (He.fAd W.K d_tree_in.at_) fd := Z.s.def_ 47
theorem Hd.d_tree_of : ∃ fd, FunD W.K d_tree_of.name d_tree_of.qual d_tree_of.params d_tree_of.body d_tree_of.scope (d_tree_of.dvs W.K) (d_tree_of.kws W.K) (He.fAd W.K d_tree_of.at_) fd := Z.s.def_ 48
theorem Hd.d_forest_of : ∃ fd, FunD W.K d_forest_of.name d_forest_of.qual d_forest_of.params d_forest_of.body d_forest_of.scope (d_forest_of.dvs W.K) (d_forest_of.kws W.K) (He.fAd W.K d_forest_of.at_) fd := Z.s.def_ 49
theorem Hd.d_two_forests : ∃ fd, FunD W.K d_two_forests.name d_two_forests.qual d_two_forests.params d_two_forests.body d_two_forests.scope (d_two_forests.dvs W.K) (d_two_forests.kws W.K) (He.fAd W.K d_two_forests.at_) fd := Z.s.def_ 50
theorem Hd.d_are_one : ∃ fd, FunD W.K d_are_one.name d_are_one.qual d_are_one.params d_are_one.body d_are_one.scope (d_are_one.dvs W.K) (d_are_one.kws W.K) (He.fAd W.K d_are_one.at_) fd := Z.s.def_ 51
theorem Hd.d_how_many_one : ∃ fd, FunD W.K d_how_many_one.name d_how_many_one.qual d_how_many_one.params d_how_many_one.body d_how_many_one.scope (d_how_many_one.dvs W.K) (d_how_many_one.kws W.K) (He.fAd W.K d_how_many_one.at_) fd := Z.s.def_ 52
theorem Hd.d_exchanged : ∃ fd, FunD W.K d_exchanged.name d_exchanged.qual d_exchanged.params d_exchanged.body d_exchanged.scope (d_exchanged.dvs W.K) (d_exchanged.kws W.K) (He.fAd W.K d_exchanged.at_) fd := Z.s.def_ 53
theorem Hd.d_exchange_row : ∃ fd, FunD W.K d_exchange_row.name d_exchange_row.qual d_exchange_row.params d_exchange_row.body d_exchange_row.scope (d_exchange_row.dvs W.K) (d_exchange_row.kws W.K) (He.fAd W.K d_exchange_row.at_) fd := Z.s.def_ 54
theorem Hd.d_far_apart : ∃ fd, FunD W.K d_far_apart.name d_far_apart.qual d_far_apart.params d_far_apart.body d_far_apart.scope (d_far_apart.dvs W.K) (d_far_apart.kws W.K) (He.fAd W.K d_far_apart.at_) fd := Z.s.def_ 55
theorem Hd.d_Lbegun : ∃ fd, FunD W.K d_Lbegun.name d_Lbegun.qual d_Lbegun.params d_Lbegun.body d_Lbegun.scope (d_Lbegun.dvs W.K) (d_Lbegun.kws W.K) (He.fAd W.K d_Lbegun.at_) fd := Z.s.def_ 56
theorem Hd.d_Ltake : ∃ fd, FunD W.K d_Ltake.name d_Ltake.qual d_Ltake.params d_Ltake.body d_Ltake.scope (d_Ltake.dvs W.K) (d_Ltake.kws W.K) (He.fAd W.K d_Ltake.at_) fd := Z.s.def_ 57
theorem Hd.d_Lof : ∃ fd, FunD W.K d_Lof.name d_Lof.qual d_Lof.params d_Lof.body d_Lof.scope (d_Lof.dvs W.K) (d_Lof.kws W.K) (He.fAd W.K d_Lof.at_) fd := Z.s.def_ 58
theorem Hd.d_Lletters : ∃ fd, FunD W.K d_Lletters.name d_Lletters.qual d_Lletters.params d_Lletters.body d_Lletters.scope (d_Lletters.dvs W.K) (d_Lletters.kws W.K) (He.fAd W.K d_Lletters.at_) fd := Z.s.def_ 59
theorem Hd.d_Lword : ∃ fd, FunD W.K d_Lword.name d_Lword.qual d_Lword.params d_Lword.body d_Lword.scope (d_Lword.dvs W.K) (d_Lword.kws W.K) (He.fAd W.K d_Lword.at_) fd := Z.s.def_ 60
theorem Hd.d_Lbook : ∃ fd, FunD W.K d_Lbook.name d_Lbook.qual d_Lbook.params d_Lbook.body d_Lbook.scope (d_Lbook.dvs W.K) (d_Lbook.kws W.K) (He.fAd W.K d_Lbook.at_) fd := Z.s.def_ 61
theorem Hd.d_Lsign : ∃ fd, FunD W.K d_Lsign.name d_Lsign.qual d_Lsign.params d_Lsign.body d_Lsign.scope (d_Lsign.dvs W.K) (d_Lsign.kws W.K) (He.fAd W.K d_Lsign.at_) fd := Z.s.def_ 62
theorem Hd.d_Lfits : ∃ fd, FunD W.K d_Lfits.name d_Lfits.qual d_Lfits.params d_Lfits.body d_Lfits.scope (d_Lfits.dvs W.K) (d_Lfits.kws W.K) (He.fAd W.K d_Lfits.at_) fd := Z.s.def_ 63
theorem Hd.d_Lopen : ∃ fd, FunD W.K d_Lopen.name d_Lopen.qual d_Lopen.params d_Lopen.body d_Lopen.scope (d_Lopen.dvs W.K) (d_Lopen.kws W.K) (He.fAd W.K d_Lopen.at_) fd := Z.s.def_ 64
theorem Hd.d_Lwithout : ∃ fd, FunD W.K d_Lwithout.name d_Lwithout.qual d_Lwithout.params d_Lwithout.body d_Lwithout.scope (d_Lwithout.dvs W.K) (d_Lwithout.kws W.K) (He.fAd W.K d_Lwithout.at_) fd := Z.s.def_ 65
theorem Hd.d_Lstruck : ∃ fd, FunD W.K d_Lstruck.name d_Lstruck.qual d_Lstruck.params d_Lstruck.body d_Lstruck.scope (d_Lstruck.dvs W.K) (d_Lstruck.kws W.K) (He.fAd W.K d_Lstruck.at_) fd := Z.s.def_ 66
theorem Hd.d_Lgaps : ∃ fd, FunD W.K d_Lgaps.name d_Lgaps.qual d_Lgaps.params d_Lgaps.body d_Lgaps.scope (d_Lgaps.dvs W.K) (d_Lgaps.kws W.K) (He.fAd W.K d_Lgaps.at_) fd := Z.s.def_ 67
theorem Hd.d_Lwoven : ∃ fd, FunD W.K d_Lwoven.name d_Lwoven.qual d_Lwoven.params d_Lwoven.body d_Lwoven.scope (d_Lwoven.dvs W.K) (d_Lwoven.kws W.K) (He.fAd W.K d_Lwoven.at_) fd := Z.s.def_ 68
theorem Hd.d_Lpairs : ∃ fd, FunD W.K d_Lpairs.name d_Lpairs.qual d_Lpairs.params d_Lpairs.body d_Lpairs.scope (d_Lpairs.dvs W.K) (d_Lpairs.kws W.K) (He.fAd W.K d_Lpairs.at_) fd := Z.s.def_ 69
theorem Hd.d_Lheap : ∃ fd, FunD W.K d_Lheap.name d_Lheap.qual d_Lheap.params d_Lheap.body d_Lheap.scope (d_Lheap.dvs W.K) (d_Lheap.kws W.K) (He.fAd W.K d_Lheap.at_) fd := Z.s.def_ 70
theorem Hd.d_Lways : ∃ fd, FunD W.K d_Lways.name d_Lways.qual d_Lways.params d_Lways.body d_Lways.scope (d_Lways.dvs W.K) (d_Lways.kws W.K) (He.fAd W.K d_Lways.at_) fd := Z.s.def_ 71
theorem Hd.d_Lright : ∃ fd, FunD W.K d_Lright.name d_Lright.qual d_Lright.params d_Lright.body d_Lright.scope (d_Lright.dvs W.K) (d_Lright.kws W.K) (He.fAd W.K d_Lright.at_) fd := Z.s.def_ 72
theorem Hd.d_Lmany_right : ∃ fd, FunD W.K d_Lmany_right.name d_Lmany_right.qual d_Lmany_right.params d_Lmany_right.body d_Lmany_right.scope (d_Lmany_right.dvs W.K) (d_Lmany_right.kws W.K) (He.fAd W.K d_Lmany_right.at_) fd := Z.s.def_ 73
theorem Hd.d_law : ∃ fd, FunD W.K d_law.name d_law.qual d_law.params d_law.body d_law.scope (d_law.dvs W.K) (d_law.kws W.K) (He.fAd W.K d_law.at_) fd := Z.s.def_ 74
end
end Sl
/-! SlBase -/
namespace Sl
open PySem PySem.Spec PyProof.Rows L2
/-! ### callables -/
/-- the module's name x is a def that keeps sp with k levels -/
def Cal (W : Wd) (k : Nat) (x : Str) (ps : List Str) (sp : Sp) : Prop :=
  ∃ f fd, W.mg x = some (.ref f) ∧ PySem.W.keepIn W.K (.ref f) = true ∧ FnOk W.P W.w W.K W.mg W.base CX0 k f fd ps sp ∧ Binds W.K fd ps []
/-- the class C's method m -/
def CalM (W : Wd) (k : Nat) (C m : Str) (ps : List Str) (sp : Sp) : Prop :=
  ∃ f fd, Meth W.K (He.ga W.K C) m f ∧ FnOk W.P W.w W.K W.mg W.base CX0 k f fd ps sp ∧ Binds W.K fd ps []
/-- the class C's making -/
def CalI (W : Wd) (k : Nat) (C : Str) (ps : List Str) (sp : Sp) : Prop :=
  ∃ f fd, Mk W.K (He.ga W.K C) f ∧ W.mg C = some (.ref (He.ga W.K C)) ∧ FnOk W.P W.w W.K W.mg W.base CX0 k f fd ps sp ∧ Binds W.K fd ps []
theorem Cal.mono {W : Wd} {j k : Nat} {x : Str} {ps : List Str} {sp : Sp} (c : Cal W j x ps sp) (h : j ≤ k) : Cal W k x ps sp := by
  obtain ⟨f, fd, a, b, F, d⟩ := c
  exact ⟨f, fd, a, b, F.mono h, d⟩
theorem CalM.mono {W : Wd} {j k : Nat} {C m : Str} {ps : List Str} {sp : Sp} (c : CalM W j C m ps sp) (h : j ≤ k) : CalM W k C m ps sp := by
  obtain ⟨f, fd, a, F, d⟩ := c
  exact ⟨f, fd, a, F.mono h, d⟩
theorem CalI.mono {W : Wd} {j k : Nat} {C : Str} {ps : List Str} {sp : Sp} (c : CalI W j C ps sp) (h : j ≤ k) : CalI W k C ps sp := by
  obtain ⟨f, fd, a, b, F, d⟩ := c
  exact ⟨f, fd, a, b, F.mono h, d⟩
/-- the worlds of a context -/
def Wof (X : Cx) : Wd := ⟨X.prog, X.w, X.K, X.mg, X.base⟩
section
variable {X : Cx} {k : Nat} {x : Str} {ps : List Str} {sp : Sp} {p pos apos : Pos} {e o : Expr} {es : List Expr} {t : TA} {ta : TE}
theorem pe_cal (c : Cal (Wof X) k x ps sp) (hr : Room k X.A) (ha : PA X (e :: es) t) (hg : Gl X x := by rfl)
    (hdb : (x == ("__debug__" : Str)) = false := by decide) (he : starEach (e :: es) X.env = (false, eval e X.env) :: starEach es X.env := by rfl) (hpl : (backTo pos (starEach es X.env)).any (·.1) = false := by rfl) :
    PE X (.Call (.Name x p) (e :: es) [] pos) (tCall sp [] E0 t) := by
  obtain ⟨f, fd, a, b, F, d⟩ := c
  exact pe_call F hr hg a b d .nil pass0 ha hdb he hpl
theorem pe_calm {C m : Str} {pl : Sem Bool} (c : CalM (Wof X) k C m ps sp) (cl : Cls X.K (He.ga X.K C)) (hr : Room k X.A) (ho : PE X o ta) (ha : PA X (e :: es) t)
    (hst : starEach (e :: es) X.env = (false, eval e X.env) :: starEach es X.env := by rfl) (hpl : (backTo pos (starEach es X.env)).any (·.1) = false := by rfl)
    (ht : eval (.Call (.Attribute o m apos) (e :: es) [] pos) X.env = (do
      let ov ← eval o X.env
      standAt apos.atName
      let (f, first) ← holding [ov] (getMethod ov m pl)
      callWith pos f first (backTo pos (starEach (e :: es) X.env)) (backToKw pos (keywordEach [] X.env))) := by rfl) :
    PE X (.Call (.Attribute o m apos) (e :: es) [] pos) (tMeth (He.ga X.K C) m sp [] E0 ta t) := by
  obtain ⟨f, fd, a, F, d⟩ := c
  exact pe_meth ho cl a F hr d .nil pass0 ha hst hpl ht
theorem pe_calm0 {C m : Str} {pl : Sem Bool} (c : CalM (Wof X) k C m ps sp) (cl : Cls X.K (He.ga X.K C)) (hr : Room k X.A) (ho : PE X o ta)
    (ht : eval (.Call (.Attribute o m apos) [] [] pos) X.env = (do
      let ov ← eval o X.env
      standAt apos.atName
      let (f, first) ← holding [ov] (getMethod ov m pl)
      callWith pos f first (backTo pos (starEach [] X.env)) (backToKw pos (keywordEach [] X.env))) := by rfl) :
    PE X (.Call (.Attribute o m apos) [] [] pos) (tMeth (He.ga X.K C) m sp [] E0 ta tNil) := by
  obtain ⟨f, fd, a, F, d⟩ := c
  exact pe_meth0 ho cl a F hr d .nil pass0 ht
theorem pe_cali (c : CalI (Wof X) k x ps sp) (hr : Room (k + 1) X.A) (ha : PA X (e :: es) t) (hg : Gl X x := by rfl)
    (hdb : (x == ("__debug__" : Str)) = false := by decide) (he : starEach (e :: es) X.env = (false, eval e X.env) :: starEach es X.env := by rfl) (hpl : (backTo pos (starEach es X.env)).any (·.1) = false := by rfl) :
    PE X (.Call (.Name x p) (e :: es) [] pos) (tMake (He.ga X.K x) sp [] E0 t) := by
  obtain ⟨f, fd, M, b, F, d⟩ := c
  exact pe_make M F hr hg b d .nil pass0 ha hdb he hpl
end
section
variable {X : Cx} {pos : Pos}
theorem pe_gS {x z : Str} {t : Tok} (hm : X.mg x = some (.str z t)) (hg : Gl X x := by rfl) (hd : (x == ("__debug__" : Str)) = false := by decide) : PE X (.Name x pos) (tC (.str z)) := pe_glob hg hm ⟨t, rfl⟩ hd
theorem pe_gI {x : Str} {i : Int} {t : Tok} (hm : X.mg x = some (.int i t)) (hg : Gl X x := by rfl) (hd : (x == ("__debug__" : Str)) = false := by decide) : PE X (.Name x pos) (tC (.int i)) := pe_glob hg hm ⟨t, rfl⟩ hd
end
/-! ### a def's proof -/
abbrev Bnd (d : He.DefD) (ps : List Str) : Prop := ∀ (kV doc pm : Value) (an : Option Addr) (cdv ct : Value) (us : List Value), us.length = ps.length →
  bindArgs (PySem.W.fnOf d.name d.qual d.params d.body d.scope .none kV doc pm an cdv ct) ⟨us, []⟩ = pure (ps.zip us)
abbrev Bdy (W : Wd) (d : He.DefD) (N : List Str) (k : Nat) (sp : Sp) : Prop := ∀ (f : Addr) (cdv : Value) (A : Around) (outer : List Env) (s : Shared) (H : Hp) (vs : List V) (Q : VK) (E : XK),
  Room k (A.deeper (envOfC d.qual d.scope s.heap.objs.size f cdv)) → sp vs H Q E →
    ∃ t, PSs (cxOf CX0 W.P W.w W.K W.mg W.base N d.qual d.scope f cdv A outer s H E).nox d.body t ∧ t { nx := fun _ H' => Q .non H', rt := Q } (start N vs) H
abbrev Len (ps : List Str) (sp : Sp) : Prop := ∀ vs H Q E, sp vs H Q E → vs.length = ps.length
section
variable {W : Wd} {d : He.DefD} {N ps : List Str} {k : Nat} {sp : Sp}
theorem fnk {f : Addr} {fd : FuncData} (F : FunD W.K d.name d.qual d.params d.body d.scope (d.dvs W.K) (d.kws W.K) f fd) (S : FnScope N ps d.scope) (len : Len ps sp) (body : Bdy W d N k sp) :
    FnOk W.P W.w W.K W.mg W.base CX0 (k + 1) f fd ps sp := by
  refine F.ok S len fun cdv A outer s H vs Q E hr h => ?_
  obtain ⟨t, h1, h2⟩ := body f cdv A outer s H vs Q E hr h
  exact ⟨t, h1.nox, h2⟩
theorem bnd0 {f : Addr} {fd : FuncData} (F : FunD W.K d.name d.qual d.params d.body d.scope (d.dvs W.K) (d.kws W.K) f fd) (hd : d.dfl = []) (hk : d.kwd = []) (b : Bnd d ps) : Binds W.K fd ps [] := by
  have e1 : d.dvs W.K = [] := by unfold He.DefD.dvs; rw [hd]; rfl
  have e2 : d.kws W.K = [] := by unfold He.DefD.kws; rw [hk]; rfl
  rw [e1, e2] at F
  exact FunD.bindsN F b
/-- a def without defaults -/
theorem cal_mk {x : Str} (hx : W.mg x = some (.ref (He.fAd W.K d.at_))) (hF : ∃ fd, FunD W.K d.name d.qual d.params d.body d.scope (d.dvs W.K) (d.kws W.K) (He.fAd W.K d.at_) fd)
    (S : FnScope N ps d.scope) (b : Bnd d ps) (len : Len ps sp) (body : Bdy W d N k sp) (hd : d.dfl = [] := by rfl) (hk : d.kwd = [] := by rfl) : Cal W (k + 1) x ps sp := by
  obtain ⟨fd, F⟩ := hF
  exact ⟨_, fd, hx, F.kp, fnk F S len body, bnd0 F hd hk b⟩
theorem calm_mk {C m : Str} (hm : Meth W.K (He.ga W.K C) m (He.fAd W.K d.at_)) (hF : ∃ fd, FunD W.K d.name d.qual d.params d.body d.scope (d.dvs W.K) (d.kws W.K) (He.fAd W.K d.at_) fd)
    (S : FnScope N ps d.scope) (b : Bnd d ps) (len : Len ps sp) (body : Bdy W d N k sp) (hd : d.dfl = [] := by rfl) (hk : d.kwd = [] := by rfl) : CalM W (k + 1) C m ps sp := by
  obtain ⟨fd, F⟩ := hF
  exact ⟨_, fd, hm, fnk F S len body, bnd0 F hd hk b⟩
theorem cali_mk {C : Str} (hm : Mk W.K (He.ga W.K C) (He.fAd W.K d.at_)) (hg : W.mg C = some (.ref (He.ga W.K C))) (hF : ∃ fd, FunD W.K d.name d.qual d.params d.body d.scope (d.dvs W.K) (d.kws W.K) (He.fAd W.K d.at_) fd)
    (S : FnScope N ps d.scope) (b : Bnd d ps) (len : Len ps sp) (body : Bdy W d N k sp) (hd : d.dfl = [] := by rfl) (hk : d.kwd = [] := by rfl) : CalI W (k + 1) C ps sp := by
  obtain ⟨fd, F⟩ := hF
  exact ⟨_, fd, hm, hg, fnk F S len body, bnd0 F hd hk b⟩
end
/-! ### heaps -/
theorem same_new {H : Hp} {p : Addr} (h : H p = none) (o : HO) : Same H (upd H p o) := fun b u q => by rw [upd_ne (ne_of_none q h)]; exact q
theorem _root_.L2.Same.tS {K : PySem.W.Frag} {H H' : Hp} {a : Addr} {xs : List V} (e : Same H H') (h : SqT K H a xs) : SqT K H' a xs := by
  rcases h with (h | ⟨o, h⟩) | h
  · exact .inl (.inl (e _ _ h))
  · exact .inl (.inr ⟨o, e _ _ h⟩)
  · exact .inr h
/-- what an object that stood unknown to H may become: H is kept -/
theorem _root_.L2.Same.mutS {H H' : Hp} {p : Addr} {o : HO} (e : Same H H') (h : H p = none) : Same H (upd H' p o) := fun a u ha => by
  rw [upd_ne (ne_of_none ha h)]
  exact e a u ha
theorem sz_of {n : Nat} (h : n ≤ 100000) : n ≤ sizeLine := Nat.le_trans h (by decide)
theorem sz_lt {n : Nat} (h : n < 100000) : n < sizeLine := Nat.lt_of_lt_of_le h (by decide)
/-- tuples stay -/
def Im (K : PySem.W.Frag) (H H' : Hp) : Prop := ∀ a xs, SqT K H a xs → SqT K H' a xs
theorem Im.refl {K : PySem.W.Frag} (H : Hp) : Im K H H := fun _ _ h => h
theorem Im.trans {K : PySem.W.Frag} {H H1 H2 : Hp} (a : Im K H H1) (b : Im K H1 H2) : Im K H H2 := fun c o h => b c o (a c o h)
theorem _root_.L2.Same.imS {K : PySem.W.Frag} {H H' : Hp} (e : Same H H') : Im K H H' := fun _ _ h => Same.tS e h
theorem im_mut {K : PySem.W.Frag} {H : Hp} {p : Addr} {o : HO} (m : Mut (H p)) : Im K H (upd H p o) := fun a xs h => by
  rcases h with (h | ⟨u, h⟩) | h
  · exact .inl (.inl (by rw [upd_ne (fun e => by rw [e] at h; rw [h] at m; exact m)]; exact h))
  · exact .inl (.inr ⟨u, by rw [upd_ne (fun e => by rw [e] at h; rw [h] at m; exact m)]; exact h⟩)
  · exact .inr h
end Sl
/-! SlEnum -/
namespace Sl
open PySem PySem.Spec PyProof.Rows L2
set_option maxHeartbeats 1000000 in
theorem meets_enum1 {v : Value} {o : Obj} {H : Heap → Prop} (B : Begins v o H) :
    Meets (Builtin.«enumerate.__new__» ⟨[.type "enumerate", v], []⟩) (fun _ R s => H s.heap ∧
      R (.ok (.ret (.ref (s.heap.push o).objs.size))) { s with heap := (s.heap.push o).push { cls := .type "enumerate", data := .fields #[.none, .bool false, .ref s.heap.objs.size, rawInt 0, .none, .none] } }) :=
  .of_wp fun prog w A R s h => by
    obtain ⟨hp, g, d, tk, os⟩ := s; obtain ⟨h1, h⟩ := h
    have hsub := sub_enumerate
    have q1 : ∀ {A' : Around} {E : Value → Shared → Prop} {Q : Value → Shared → Prop}, Q (.ref hp.objs.size) ⟨hp.push o, g, d, tk, os⟩ → wpAny (model prog w) A' (pyIter v) Q E ⟨hp, g, d, tk, os⟩ :=
      fun q => B.iter prog w _ _ ⟨hp, g, d, tk, os⟩ _ h1 q
    wp_walk using q1
    refine wpAny_stack_any fun st => wpAny_pure ?_
    split
    · rename_i c _ _ _ _ _
      cases (c == Value.type "enumerate")
      · wp_walk using q1
        exact ⟨_, rfl, h⟩
      · wp_walk using q1
        exact ⟨_, rfl, h⟩
    · wp_walk using q1
      exact ⟨_, rfl, h⟩
theorem enum_begins1 {prog : Program} {w : World} {A : Around} {E : Value → Shared → Prop} {s : Shared} {v : Value} {o : Obj} {H : Heap → Prop} {Q : Value → Shared → Prop} (B : Begins v o H) (h1 : H s.heap)
    (h : ∀ h', IsEnum h' (s.heap.objs.size + 1) s.heap.objs.size 0 .none → h'.get? s.heap.objs.size = some o → h'.objs.size = s.heap.objs.size + 2 →
      (∀ b o, s.heap.get? b = some o → h'.get? b = some o) → Q (.ref (s.heap.objs.size + 1)) { s with heap := h' }) :
    wpAny (model prog w) A (PySem.call (.type "enumerate") [v]) Q E s := by
  refine callType_new F.called_enumerate (by decide) (F.typeCall_enumerate_1 _) (F.newCall_enumerate_1 _) (fun obj => F.args_object_init_2 obj _) F.entry_enumerate_new
    (meets_enum1 B) ⟨h1, ?_⟩
  have hz : (s.heap.push o).objs.size = s.heap.objs.size + 1 := Heap.size_push ..
  show _ ∧ _
  rw [hz]
  have he : IsEnum ((s.heap.push o).push { cls := .type "enumerate", data := .fields #[.none, .bool false, .ref s.heap.objs.size, rawInt 0, .none, .none] }) (s.heap.objs.size + 1) s.heap.objs.size 0 .none := by
    have := Heap.get?_push_size (s.heap.push o) (o := { cls := .type "enumerate", data := .fields #[.none, .bool false, .ref s.heap.objs.size, rawInt 0, .none, .none] }) rfl
    rw [hz] at this; exact this
  exact ⟨⟨_, he, rfl⟩, h _ he (Heap.get?_push_of_some _ (Heap.get?_push_size _ B.free)) (by rw [Heap.size_push, hz]) fun b o x => Heap.get?_push_of_some _ (Heap.get?_push_of_some _ x)⟩
/-! ### enumerate(tuple) -/
def IteT (K : PySem.W.Frag) (a : Addr) : It :=
  ⟨fun i H => ∃ (xs : List V) (x : V), SqT K H a xs ∧ xs[i]? = some x, fun i H v H' => ∃ T x, v = .ref T ∧ H T = none ∧ H' = upd H T (.tup [.int (i : Nat), x]) ∧ ∀ xs, SqT K H a xs → xs[i]? = some x, fun i H => ∃ xs : List V, SqT K H a xs ∧ xs.length = i⟩
theorem turn_enumT {P : Program} {w : World} {K : PySem.W.Frag} {elts : List Expr} {kk : Nat} {tpos : Pos} (a e it : Addr) :
    Turn P w K (.Tuple elts kk tpos) (IteT K a) [e, it] e (fun i h => (∃ old, IsEnum h e it ((i : Nat) : Int) old) ∧ h.IsTupleIter it a i ∧ e ≠ it ∧ a ≠ it ∧ e ≠ a) where
  mem := by simp
  obj := fun i h st b hb => by
    obtain ⟨⟨old, he⟩, ⟨o, ho, hc, hd⟩, _⟩ := st
    have e' : b = e ∨ b = it := by simpa using hb
    rcases e' with z | z
    · rw [z]; exact ⟨_, he, fun v q => nomatch q⟩
    · rw [z]; exact ⟨o, ho, fun v q => by rw [hd] at q; cases q⟩
  keep := fun i h h' st k => let ⟨⟨old, he⟩, hi, hne⟩ := st; ⟨⟨old, k e (by simp) _ he⟩, hi.at fun o q => k it (by simp) o q, hne⟩
  item := by
    intro X hP hw hK hc i pins s σ H E I hf st hg
    subst hP hw hK
    obtain ⟨⟨old, he⟩, hit, hne, hne2, hne3⟩ := st
    obtain ⟨xs, x, hq, hx⟩ := hg
    obtain ⟨its, rv, p, hz⟩ := I.tuple hq
    have hil0 : i < its.length := by
      rw [← rv.length]
      exact (List.getElem?_eq_some_iff.mp hx).1
    have hel : e < s.heap.objs.size := Heap.lt_size he
    have hil : it < s.heap.objs.size := by obtain ⟨_, q, _⟩ := hit; exact Heap.lt_size q
    refine wpAny_pyNext_enum_itemD (Draws.tuple (A := X.A.in1) (I.ok.hd hc) it a hne2 its.toArray) he ⟨hit, show s.heap.IsTuple a its.toArray from p⟩ (by simpa using hil0) hne (fun z => by
      rcases List.mem_cons.mp z with z | z
      · exact hne z
      · exact hne3 (List.mem_singleton.mp z)) fun u h' tk hu ho hst' hT hsz hk => ?_
    have hu' : its[i]? = some u := by simpa using hu
    have ru : RelV x u := by
      obtain ⟨u', hu2, ru⟩ := rv.get hx
      rw [hu'] at hu2; cases hu2; exact ru
    refine ⟨_, rfl, wpAny_letOwnedTupleGo_enum (s := { s with heap := h', toks := tk + 1 }) ho fun h'' he' sb => ?_⟩
    have hT2 : h''.get? s.heap.objs.size = some { cls := .type "tuple", data := .seq #[.int i tk, u] } := (sb.2 _ (Nat.ne_of_gt hel)).trans hT
    have new : ObjOk X.prog X.w (upd H s.heap.objs.size (.tup [.int (i : Nat), x])) h'' s.heap.objs.size (.tup [.int (i : Nat), x]) :=
      ⟨by show 2 ≤ sizeLine; decide, [.int i tk, u], .cons ⟨_, rfl⟩ (.cons ru .nil), ⟨_, hT2, rfl, _, rfl⟩⟩
    have I1 : Inv X pins σ (upd H s.heap.objs.size (.tup [.int (i : Nat), x])) { s with heap := h'', toks := tk + 1 } :=
      I.turnedNew (ch := [e, it]) (fun b ob hb q => (sb.2 b (fun z => hb (by simp [z]))).trans (hk b ob (fun z => hb (by simp [z])) (fun z => hb (by simp [z])) q)) hf (Nat.le_refl _) new
    refine ⟨.ref s.heap.objs.size, _, I1, rfl, ⟨_, x, rfl, I.hok.fresh (Nat.le_refl _), rfl, fun ys hy => by rw [I.tuple_inj hy hq]; exact hx⟩, ⟨⟨u, ?_⟩, hst'.1.at fun o q => (sb.2 it (Ne.symm hne)).trans q, hne, hne2, hne3⟩, fun b hb => ?_⟩
    · have e1 : ((i + 1 : Nat) : Int) = (i : Int) + 1 := by omega
      rw [e1]; exact he'
    · have hb' : b < s.heap.objs.size := by
        have e' : b = e ∨ b = it := by simpa using hb
        rcases e' with z | z
        · rw [z]; exact hel
        · rw [z]; exact hil
      rw [upd_ne (Nat.ne_of_lt hb')]
      exact (hf b hb).1
  done := by
    intro X hP hw hK hc i pins s σ H E I hf st hg
    subst hP hw hK
    obtain ⟨⟨old, he⟩, hit, hne, hne2, hne3⟩ := st
    obtain ⟨xs, hq, hx⟩ := hg
    obtain ⟨its, rv, p, hz⟩ := I.tuple hq
    obtain ⟨f0, f1, f2, f3, f4, f5⟩ := hf it (by simp)
    have hl := rv.length
    have hpT : s.heap.IsTuple a its.toArray := p
    have hil : i = its.toArray.size := by
      rw [List.size_toArray, ← hl]
      exact hx.symm
    subst hil
    exact wpAny_pyNext_enum_endD (Draws.tuple (A := X.A.in1) (I.ok.hd hc) it a hne2 its.toArray) he ⟨hit, hpT⟩ fun h' eb => ⟨rfl, I.turned (t' := s.toks) (fun b o hb q => eb b o hb q) f0 f1 f3 f4 f5⟩
  self := fun A i s Q E st h => let ⟨⟨_, he⟩, _⟩ := st; wpAny_pyIter_enum he h
def iEnumT (K : PySem.W.Frag) (ta : TA) : TI := fun σ H R => ta σ H fun vs H1 => ∃ a xs, vs = [.ref a] ∧ SqT K H1 a xs ∧ R (IteT K a) H1
theorem pi_enumT {X : Cx} {e : Expr} {ta : TA} {p pos tpos : Pos} {elts : List Expr} {kk : Nat} (hg : Gl X "enumerate") (hm : X.mg "enumerate" = none) (ha : PA X [e] ta) (hs : starEach [e] X.env = [(false, eval e X.env)] := by rfl) :
    PI X (.Tuple elts kk tpos) (.Call (.Name "enumerate" p) [e] [] pos) (iEnumT X.K ta) := by
  refine ⟨fun pins s σ H R I h => ?_⟩
  refine Call_ (ld_blt I hg hm boot_enumerate (PyProof.Rows.callWith_type1 (thn (ha.run pos pins s σ H _ I h) fun us s1 ⟨vs, H1, I1, r1, q1⟩ => ?_) hs rfl))
  obtain ⟨a, xs, ex, hq, q⟩ := q1
  subst ex
  cases r1 with
  | cons r rr =>
    cases rr
    cases r
    obtain ⟨its, rv, p', hz⟩ := I1.tuple hq
    have hpT : s1.heap.IsTuple a its.toArray := p'
    have hal : a < s1.heap.objs.size := by obtain ⟨_, q', _⟩ := p'; exact Heap.lt_size q'
    refine enum_begins1 (begins_tuple a its.toArray) hpT fun h' he hit hsz hk => wpAny_pyIter_enum he ?_
    have I2 : Inv X pins σ H1 { s1 with heap := h' } := I1.kept (t' := s1.toks) hk
    refine ⟨s1.heap.objs.size + 1, [s1.heap.objs.size + 1, s1.heap.objs.size], _, _, H1, rfl, I2, turn_enumT a (s1.heap.objs.size + 1) s1.heap.objs.size, ⟨⟨.none, he⟩, ⟨_, hit, rfl, rfl⟩, Nat.succ_ne_self _, Nat.ne_of_lt hal, Nat.ne_of_gt (Nat.lt_succ_of_lt hal)⟩, fun b hb => ?_, q⟩
    have e' : b = s1.heap.objs.size + 1 ∨ b = s1.heap.objs.size := by simpa using hb
    have hle : s1.heap.objs.size ≤ b := by
      rcases e' with z | z
      · rw [z]; exact Nat.le_add_right _ _
      · rw [z]; exact Nat.le_refl _
    exact I1.fpOk hle (I1.hok.fresh hle)
/-! ### enumerate(text) -/
def IteS (z : Str) : It :=
  ⟨fun i _ => i < z.cps.size, fun i H v H' => ∃ T c, v = .ref T ∧ H T = none ∧ H' = upd H T (.tup [.int (i : Nat), .str ⟨#[c]⟩]) ∧ z.cps[i]? = some c, fun i _ => z.cps.size = i⟩
theorem turn_enumS {P : Program} {w : World} {K : PySem.W.Frag} {elts : List Expr} {kk : Nat} {tpos : Pos} (z : Str) (t : Tok) (e it : Addr) :
    Turn P w K (.Tuple elts kk tpos) (IteS z) [e, it] e (fun i h => (∃ old, IsEnum h e it ((i : Nat) : Int) old) ∧ h.IsStrIter it (strIterType z) z t i ∧ e ≠ it) where
  mem := by simp
  obj := fun i h st b hb => by
    obtain ⟨⟨old, he⟩, hit, _⟩ := st
    have e' : b = e ∨ b = it := by simpa using hb
    rcases e' with z | z
    · rw [z]; exact ⟨_, he, fun v q => nomatch q⟩
    · rw [z]
      obtain ⟨o, ho, hc, hd⟩ := hit
      exact ⟨o, ho, fun v q => by rw [hd] at q; cases q⟩
  keep := fun i h h' st k => by
    obtain ⟨⟨old, he⟩, hi, hne⟩ := st
    obtain ⟨o, ho, r⟩ := hi
    exact ⟨⟨old, k e (by simp) _ he⟩, ⟨o, k it (by simp) o ho, r⟩, hne⟩
  item := by
    intro X hP hw hK hc i pins s σ H E I hf st hg
    subst hP hw hK
    obtain ⟨⟨old, he⟩, hit, hne⟩ := st
    have hel : e < s.heap.objs.size := Heap.lt_size he
    have hil : it < s.heap.objs.size := by obtain ⟨_, q, _⟩ := hit; exact Heap.lt_size q
    refine wpAny_pyNext_enum_itemD (Draws.text (A := X.A.in1) (I.ok.hd hc) it z t) he hit hg hne (fun z => hne (List.mem_singleton.mp z)) fun u h' tk hu ho hst' hT hsz hk => ?_
    obtain ⟨c, tu, hcz, rfl⟩ := hu
    refine ⟨_, rfl, wpAny_letOwnedTupleGo_enum (s := { s with heap := h', toks := tk + 1 }) ho fun h'' he' sb => ?_⟩
    have hT2 : h''.get? s.heap.objs.size = some { cls := .type "tuple", data := .seq #[.int i tk, .str ⟨#[c]⟩ tu] } := (sb.2 _ (Nat.ne_of_gt hel)).trans hT
    have new : ObjOk X.prog X.w (upd H s.heap.objs.size (.tup [.int (i : Nat), .str ⟨#[c]⟩])) h'' s.heap.objs.size (.tup [.int (i : Nat), .str ⟨#[c]⟩]) :=
      ⟨by show 2 ≤ sizeLine; decide, [.int i tk, .str ⟨#[c]⟩ tu], .cons ⟨_, rfl⟩ (.cons ⟨_, rfl⟩ .nil), ⟨_, hT2, rfl, _, rfl⟩⟩
    have I1 : Inv X pins σ (upd H s.heap.objs.size (.tup [.int (i : Nat), .str ⟨#[c]⟩])) { s with heap := h'', toks := tk + 1 } :=
      I.turnedNew (ch := [e, it]) (fun b ob hb q => (sb.2 b (fun z => hb (by simp [z]))).trans (hk b ob (fun z => hb (by simp [z])) (fun z => hb (by simp [z])) q)) hf (Nat.le_refl _) new
    have hst2 : h''.IsStrIter it (strIterType z) z t (i + 1) := by
      obtain ⟨o, ho2, r⟩ := hst'
      exact ⟨o, (sb.2 it (Ne.symm hne)).trans ho2, r⟩
    refine ⟨.ref s.heap.objs.size, _, I1, rfl, ⟨_, c, rfl, I.hok.fresh (Nat.le_refl _), rfl, hcz⟩, ⟨⟨.str ⟨#[c]⟩ tu, ?_⟩, hst2, hne⟩, fun b hb => ?_⟩
    · have e1 : ((i + 1 : Nat) : Int) = (i : Int) + 1 := by omega
      rw [e1]; exact he'
    · have hb' : b < s.heap.objs.size := by
        have e' : b = e ∨ b = it := by simpa using hb
        rcases e' with z | z
        · rw [z]; exact hel
        · rw [z]; exact hil
      rw [upd_ne (Nat.ne_of_lt hb')]
      exact (hf b hb).1
  done := by
    intro X hP hw hK hc i pins s σ H E I hf st hg
    subst hP hw hK
    obtain ⟨⟨old, he⟩, hit, hne⟩ := st
    obtain ⟨f0, f1, f2, f3, f4, f5⟩ := hf it (by simp)
    have hgi : z.cps.size = i := hg
    subst hgi
    exact wpAny_pyNext_enum_endD (Draws.text (A := X.A.in1) (I.ok.hd hc) it z t) he hit fun h' eb => ⟨rfl, I.turned (t' := s.toks) (fun b o hb q => eb b o hb q) f0 f1 f3 f4 f5⟩
  self := fun A i s Q E st h => let ⟨⟨_, he⟩, _⟩ := st; wpAny_pyIter_enum he h
def iEnumS (ta : TA) : TI := fun σ H R => ta σ H fun vs H1 => ∃ z, vs = [.str z] ∧ R (IteS z) H1
theorem pi_enumS {X : Cx} {e : Expr} {ta : TA} {p pos tpos : Pos} {elts : List Expr} {kk : Nat} (hg : Gl X "enumerate") (hm : X.mg "enumerate" = none) (ha : PA X [e] ta) (hs : starEach [e] X.env = [(false, eval e X.env)] := by rfl) :
    PI X (.Tuple elts kk tpos) (.Call (.Name "enumerate" p) [e] [] pos) (iEnumS ta) := by
  refine ⟨fun pins s σ H R I h => ?_⟩
  refine Call_ (ld_blt I hg hm boot_enumerate (PyProof.Rows.callWith_type1 (thn (ha.run pos pins s σ H _ I h) fun us s1 ⟨vs, H1, I1, r1, q1⟩ => ?_) hs rfl))
  obtain ⟨z, ex, q⟩ := q1
  subst ex
  cases r1 with
  | cons r rr =>
    cases rr
    obtain ⟨t, rfl⟩ := r
    refine enum_begins1 (begins_text z t) trivial fun h' he hit hsz hk => wpAny_pyIter_enum he ?_
    have I2 : Inv X pins σ H1 { s1 with heap := h' } := I1.kept (t' := s1.toks) hk
    refine ⟨s1.heap.objs.size + 1, [s1.heap.objs.size + 1, s1.heap.objs.size], _, _, H1, rfl, I2, turn_enumS z t (s1.heap.objs.size + 1) s1.heap.objs.size, ⟨⟨.none, he⟩, ⟨_, hit, rfl, rfl⟩, Nat.succ_ne_self _⟩, fun b hb => ?_, q⟩
    have e' : b = s1.heap.objs.size + 1 ∨ b = s1.heap.objs.size := by simpa using hb
    have hle : s1.heap.objs.size ≤ b := by
      rcases e' with z | z
      · rw [z]; exact Nat.le_add_right _ _
      · rw [z]; exact Nat.le_refl _
    exact I1.fpOk hle (I1.hok.fresh hle)
/-! ### for over these -/
theorem for_enumT {K : PySem.W.Frag} {a : Addr} {xs : List V} {g : TG} {tb : TS} {D : Ends} {σ : L2.St} {H : Hp} (Pv : Nat → L2.St → Hp → Prop) (h0 : Pv 0 σ H) (hl : ∀ i σ H, i ≤ xs.length → Pv i σ H → SqT K H a xs)
    (hs : ∀ i x σ H T, xs[i]? = some x → Pv i σ H → H T = none → g (.ref T) σ (upd H T (.tup [.int (i : Nat), x])) fun σ2 H2 => tb { D with nx := Pv (i + 1), ct := Pv (i + 1), bk := D.nx } σ2 H2) (hd : ∀ σ H, Pv xs.length σ H → D.nx σ H) :
    ∃ W : Nat → Nat → L2.St → Hp → Prop, (∃ m, W 0 m σ H) ∧ ∀ i m σ H, W i m σ H →
      ((IteT K a).stop i H ∧ D.nx σ H) ∨ ((IteT K a).go i H ∧ ∃ N : L2.St → Hp → Prop, (∀ σ' H', N σ' H' → ∃ m', m' < m ∧ W (i + 1) m' σ' H') ∧ ∀ x H', (IteT K a).yld i H x H' → g x σ H' fun σ2 H2 => tb { D with nx := N, ct := N, bk := D.nx } σ2 H2) := by
  refine ⟨fun i m σ H => m = xs.length - i ∧ i ≤ xs.length ∧ Pv i σ H, ⟨xs.length, by simp, Nat.zero_le _, h0⟩, ?_⟩
  rintro i m σ H ⟨rfl, hi, p⟩
  have q := hl i σ H hi p
  by_cases hlt : i < xs.length
  · refine .inr ⟨⟨xs, xs[i], q, by simp [hlt]⟩, Pv (i + 1), fun σ' H' p' => ⟨xs.length - (i + 1), by omega, rfl, hlt, p'⟩, fun x H' y => ?_⟩
    obtain ⟨T, v, rfl, hT, rfl, y⟩ := y
    exact hs i v σ H T (y xs q) p hT
  · have e : i = xs.length := by omega
    subst e
    exact .inl ⟨⟨xs, q, rfl⟩, hd σ H p⟩
theorem for_enumS {z : Str} {g : TG} {tb : TS} {D : Ends} {σ : L2.St} {H : Hp} (Pv : Nat → L2.St → Hp → Prop) (h0 : Pv 0 σ H)
    (hs : ∀ i c σ H T, z.cps[i]? = some c → Pv i σ H → H T = none → g (.ref T) σ (upd H T (.tup [.int (i : Nat), .str ⟨#[c]⟩])) fun σ2 H2 => tb { D with nx := Pv (i + 1), ct := Pv (i + 1), bk := D.nx } σ2 H2) (hd : ∀ σ H, Pv z.cps.size σ H → D.nx σ H) :
    ∃ W : Nat → Nat → L2.St → Hp → Prop, (∃ m, W 0 m σ H) ∧ ∀ i m σ H, W i m σ H →
      ((IteS z).stop i H ∧ D.nx σ H) ∨ ((IteS z).go i H ∧ ∃ N : L2.St → Hp → Prop, (∀ σ' H', N σ' H' → ∃ m', m' < m ∧ W (i + 1) m' σ' H') ∧ ∀ x H', (IteS z).yld i H x H' → g x σ H' fun σ2 H2 => tb { D with nx := N, ct := N, bk := D.nx } σ2 H2) := by
  refine ⟨fun i m σ H => m = z.cps.size - i ∧ i ≤ z.cps.size ∧ Pv i σ H, ⟨z.cps.size, by simp, Nat.zero_le _, h0⟩, ?_⟩
  rintro i m σ H ⟨rfl, hi, p⟩
  by_cases hlt : i < z.cps.size
  · refine .inr ⟨hlt, Pv (i + 1), fun σ' H' p' => ⟨z.cps.size - (i + 1), by omega, rfl, hlt, p'⟩, fun x H' y => ?_⟩
    obtain ⟨T, c, rfl, hT, rfl, y⟩ := y
    exact hs i c σ H T y p hT
  · have e : i = z.cps.size := by omega
    subst e
    exact .inl ⟨rfl, hd σ H p⟩
end Sl
/-! SlZip -/
namespace Sl
open PySem PySem.Spec PyProof.Rows L2
section
variable {M : Model} {A : Around} {E : Value → Shared → Prop} {s : Shared} {env : Env}
theorem callWith_type_kwB {pos : Pos} {T : String} {first : List Value} {args : List (Bool × Sem Value)} {keywords : List (Option Str × Sem Value)} {Q : Value → Shared → Prop}
    (hplain : args.any (·.1) = false) (hkw : keywords.any (·.1.isNone) = false)
    (h : wpAny M A (evalArgs (.type T) true args keywords) (fun a s₁ => wpAny M A (PySem.call (.type T) (first ++ a.pos) a.kw) Q E s₁) E s) :
    wpAny M A (callWith pos (.type T) first args keywords) Q E s := by
  unfold callWith
  refine wpAny_bind (wpAny_holding (wpAny_mono h (fun a s₁ h₁ => wpAny_bind (wpAny_standAt ?_)) fun _ _ x => x))
  simp only [hplain, hkw, Bool.or_false]
  refine wpAny_bind (wpAny_pure ?_)
  exact wpAny_bind (wpAny_mono h₁ (fun r s₂ hr => wpAny_bind (wpAny_holding (wpAny_point (wpAny_pure hr)))) fun _ _ x => x)
theorem callWith_kwT {pos : Pos} {T : String} {e : Expr} {rest : List Expr} {kws : List Keyword} {Q : Value → Shared → Prop}
    (h : wpAny M A (spliced (backTo pos (starEach (e :: rest) env))) (fun vs s₁ => wpAny M A (evalAll ((backToKw pos (keywordEach kws env)).map (·.2)))
      (fun kvs s₂ => wpAny M A (PySem.call (.type T) vs (((backToKw pos (keywordEach kws env)).filterMap (·.1)).zip kvs)) Q E s₂) E s₁) E s)
    (he : backTo pos (starEach (e :: rest) env) = (false, eval e env) :: backTo pos (starEach rest env) := by rfl)
    (hplain : (backTo pos (starEach (e :: rest) env)).any (·.1) = false := by rfl)
    (hall : (backToKw pos (keywordEach kws env)).all (·.1.isSome) = true := by rfl)
    (hkw : (backToKw pos (keywordEach kws env)).any (·.1.isNone) = false := by rfl) :
    wpAny M A (callWith pos (.type T) [] (backTo pos (starEach (e :: rest) env)) (backToKw pos (keywordEach kws env))) Q E s := by
  refine callWith_type_kwB hplain hkw ?_
  rw [he] at h ⊢
  exact evalArgs_kwB hall h
end
theorem typeCall_zip_strict (a b c : Value) : checkTypeCall "zip" ⟨[a, b], [(Str.ofString "strict", c)]⟩ = pure () := by kernel_rfl
theorem newCall_zip_strict (a b c : Value) : checkBuiltinCall "zip.__new__" ⟨[.type "zip", a, b], [(Str.ofString "strict", c)]⟩ = pure () := by kernel_rfl
theorem args_object_init_strict (obj a b c : Value) : argsOk "object.__init__" ⟨[obj, a, b], [(Str.ofString "strict", c)]⟩ := by unfold argsOk; kernel_rfl
set_option maxHeartbeats 1000000 in
theorem meets_zip_newK {v1 v2 : Value} {o1 o2 : Obj} {H1 H2 : Heap → Prop} (B1 : Begins v1 o1 H1) (B2 : Begins v2 o2 H2) :
    Meets (Builtin.«zip.__new__» ⟨[.type "zip", v1, v2], [(Str.ofString "strict", .bool false)]⟩) (fun _ R s => (H1 s.heap ∧ H2 s.heap) ∧
      R (.ok (.ret (.ref (gzO2 s.heap o1 o2).objs.size))) { s with heap := gzZ2 s.heap o1 o2 }) :=
  .of_wp fun prog w A R s h => by
    obtain ⟨hp, g, d, tk, os⟩ := s; obtain ⟨⟨h1, h2⟩, h⟩ := h
    have hsub := sub_zip
    have e2 : (Str.ofString "strict" != ("strict" : Str)) = false := by decide +kernel
    have q1 : ∀ {A' : Around} {E : Value → Shared → Prop} {Q : Value → Shared → Prop}, Q (.ref hp.objs.size) ⟨(hp.push o1), g, d, tk, os⟩ → wpAny (model prog w) A' (pyIter v1) Q E ⟨hp, g, d, tk, os⟩ :=
      fun q => B1.iter prog w _ _ ⟨hp, g, d, tk, os⟩ _ (B1.keeps _ _ h1 fun b o' e => e) q
    have q2 : ∀ {A' : Around} {E : Value → Shared → Prop} {Q : Value → Shared → Prop}, Q (.ref (hp.push o1).objs.size) ⟨((hp.push o1).push o2), g, d, tk, os⟩ → wpAny (model prog w) A' (pyIter v2) Q E ⟨(hp.push o1), g, d, tk, os⟩ :=
      fun q => B2.iter prog w _ _ ⟨(hp.push o1), g, d, tk, os⟩ _ (B2.keeps _ _ h2 fun b o' e => (Heap.get?_push_of_some _ e)) q
    wp_walk using q1, q2
    exact ⟨_, rfl, h⟩
theorem zip_begins2K {prog : Program} {w : World} {A : Around} {E : Value → Shared → Prop} {s : Shared} {v1 v2 : Value} {o1 o2 : Obj} {H1 H2 : Heap → Prop} {Q : Value → Shared → Prop} (B1 : Begins v1 o1 H1) (B2 : Begins v2 o2 H2) (h1 : H1 s.heap) (h2 : H2 s.heap)
    (h : ∀ h', IsZip h' (s.heap.objs.size + 4) (s.heap.objs.size + 2) (s.heap.objs.size + 3) .none → IsTupOf2 h' (s.heap.objs.size + 2) (.ref s.heap.objs.size) (.ref (s.heap.objs.size + 1)) →
      IsTupOf2 h' (s.heap.objs.size + 3) .none .none → h'.get? s.heap.objs.size = some o1 → h'.get? (s.heap.objs.size + 1) = some o2 → h'.objs.size = s.heap.objs.size + 5 →
      (∀ c o, s.heap.get? c = some o → h'.get? c = some o) → Q (.ref (s.heap.objs.size + 4)) { s with heap := h' }) :
    wpAny (model prog w) A (PySem.call (.type "zip") [v1, v2] [(Str.ofString "strict", .bool false)]) Q E s := by
  refine callType_newKw F.called_zip (by decide) (typeCall_zip_strict _ _ _) (newCall_zip_strict _ _ _) (fun obj => args_object_init_strict obj _ _ _) F.entry_zip_new
    (meets_zip_newK B1 B2) ⟨⟨h1, h2⟩, ?_⟩
  have z1 : (s.heap.push o1).objs.size = s.heap.objs.size + 1 := by rw [Heap.size_push]
  have z2 : ((s.heap.push o1).push o2).objs.size = s.heap.objs.size + 2 := by rw [Heap.size_push, z1]
  have zT : (gzT2 s.heap o1 o2).objs.size = s.heap.objs.size + 3 := by rw [Heap.size_push, z2]
  have zO : (gzO2 s.heap o1 o2).objs.size = s.heap.objs.size + 4 := by rw [Heap.size_push, zT]
  have zZ : (gzZ2 s.heap o1 o2).objs.size = s.heap.objs.size + 5 := by rw [Heap.size_push, zO]
  have gZ : (gzZ2 s.heap o1 o2).get? (gzO2 s.heap o1 o2).objs.size = some { cls := .type "zip", data := .fields #[.none, .bool false, .bool false, .ref ((s.heap.push o1).push o2).objs.size, .ref (gzT2 s.heap o1 o2).objs.size] } := Heap.get?_push_size _ rfl
  have gO : (gzZ2 s.heap o1 o2).get? (gzT2 s.heap o1 o2).objs.size = some { cls := .type "tuple", data := .seq #[.none, .none] } := Heap.get?_push_of_some _ (Heap.get?_push_size _ rfl)
  have gT : (gzZ2 s.heap o1 o2).get? ((s.heap.push o1).push o2).objs.size = some { cls := .type "tuple", data := .seq #[.ref s.heap.objs.size, .ref (s.heap.push o1).objs.size] } := Heap.get?_push_of_some _ (Heap.get?_push_of_some _ (Heap.get?_push_size _ rfl))
  have g1 : (gzZ2 s.heap o1 o2).get? s.heap.objs.size = some o1 := Heap.get?_push_of_some _ (Heap.get?_push_of_some _ (Heap.get?_push_of_some _ (Heap.get?_push_of_some _ (Heap.get?_push_size _ B1.free))))
  have g2 : (gzZ2 s.heap o1 o2).get? (s.heap.push o1).objs.size = some o2 := Heap.get?_push_of_some _ (Heap.get?_push_of_some _ (Heap.get?_push_of_some _ (Heap.get?_push_size _ B2.free)))
  rw [zO, zT, z2] at gZ
  rw [zT] at gO
  rw [z2, z1] at gT
  rw [z1] at g2
  show _ ∧ _
  rw [zO]
  exact ⟨⟨_, gZ, rfl⟩, h _ gZ gT gO g1 g2 zZ fun c o x => Heap.get?_push_of_some _ (Heap.get?_push_of_some _ (Heap.get?_push_of_some _ (Heap.get?_push_of_some _ (Heap.get?_push_of_some _ x))))⟩
def iZipK (K : PySem.W.Frag) (ta : TA) : TI := fun σ H R => ta σ H fun vs H1 => ∃ a b xs ys, vs = [.ref a, .ref b] ∧ SqL K H1 a xs ∧ SqL K H1 b ys ∧ R (Itz K a b) H1
/-- for .. in zip(xs, ys, strict=False) -/
theorem pi_zipK {X : Cx} {e e2 : Expr} {ta : TA} {p pos tpos cp : Pos} {kpos : Pos} {j : Nat} {elts : List Expr} {kk : Nat} (hg : Gl X "zip") (hm : X.mg "zip" = none) (ha : PA X [e, e2] ta)
    (he : backTo pos (starEach [e, e2] X.env) = (false, eval e X.env) :: backTo pos (starEach [e2] X.env) := by rfl) (hplain : (backTo pos (starEach [e, e2] X.env)).any (·.1) = false := by rfl) :
    PI X (.Tuple elts kk tpos) (.Call (.Name "zip" p) [e, e2] [⟨some "strict", .Constant (.bool false) j cp, kpos⟩] pos) (iZipK X.K ta) := by
  refine ⟨fun pins s σ H R I h => ?_⟩
  refine wpAny_Call_Name_kw (ld_blt I hg hm PyProof.Rows.boot_zip ?_)
  refine callWith_kwT (thn (ha.run pos pins s σ H _ I h) fun us s1 ⟨vs, H1, I1, r1, q1⟩ => ?_) he hplain
  refine thn ((pk_cons pe_bl pk_nil : PK X [⟨some "strict", .Constant (.bool false) j cp, kpos⟩] (tCons (tC (.bl false)) tNil)).run pos pins s1 σ H1 (fun zs H2 => zs = [V.bl false] ∧ H2 = H1) I1 ⟨rfl, rfl⟩) fun ws s2 ⟨zs, H2, I2, rz, ez, eH⟩ => ?_
  subst ez
  subst eH
  obtain ⟨a, b, xs, ys, ex, hqx, hqy, q⟩ := q1
  subst ex
  cases rz with
  | cons rb rr =>
    cases rr
    cases rb
    cases r1 with
    | cons r rr =>
      cases rr with
      | cons r' rr =>
        cases rr
        cases r
        cases r'
        obtain ⟨its, rv, p1, _⟩ := I2.list hqx
        obtain ⟨its2, rv2, p2, _⟩ := I2.list hqy
        have la : a < s2.heap.objs.size := p1.lt
        have lb : b < s2.heap.objs.size := p2.lt
        show wpAny _ _ (PySem.call (.type "zip") [.ref a, .ref b] [(Str.ofString "strict", .bool false)]) _ _ _
        refine zip_begins2K (begins_list a its.toArray) (begins_list b its2.toArray) p1.isList p2.isList fun h' hz hTI hTO h1 h2 hsz hk => wpAny_pyIter_zip hz ?_
        have I3 : Inv X pins σ H2 { s2 with heap := h' } := I2.kept (t' := s2.toks) hk
        refine ⟨s2.heap.objs.size + 4, [s2.heap.objs.size + 4, s2.heap.objs.size + 2, s2.heap.objs.size + 3, s2.heap.objs.size, s2.heap.objs.size + 1], _, _, H2, rfl, I3, turn_zip (PySem.W.ktu_apart s2.heap.objs.size a b la lb), ⟨hz, hTI, ⟨_, _, hTO⟩, ⟨_, h1, rfl, rfl⟩, ⟨_, h2, rfl, rfl⟩⟩, fun c hcm => ?_, q⟩
        have e' : c = s2.heap.objs.size + 4 ∨ c = s2.heap.objs.size + 2 ∨ c = s2.heap.objs.size + 3 ∨ c = s2.heap.objs.size ∨ c = s2.heap.objs.size + 1 := by simpa using hcm
        have hle : s2.heap.objs.size ≤ c := by
          rcases e' with z | z | z | z | z
          · rw [z]; exact Nat.le_add_right _ _
          · rw [z]; exact Nat.le_add_right _ _
          · rw [z]; exact Nat.le_add_right _ _
          · rw [z]; exact Nat.le_refl _
          · rw [z]; exact Nat.le_add_right _ _
        exact I2.fpOk hle (I2.hok.fresh hle)
end Sl
/-! SlMin -/
namespace Sl
open PySem PySem.Spec PyProof.Rows L2
abbrev kwD : List (Str × Value) := [(("default" : Str), .none)]
theorem args_minD (a : Value) : argsOk "min" ⟨[a], [(Str.ofString "default", .none)]⟩ := by unfold argsOk; kernel_rfl
theorem call_function_treeK {prog : Program} {w : World} {A : Around} {E : Value → Shared → Prop} {s : Shared} {id : String} {b : Builtin} {args : List Value} {kw : List (Str × Value)} {Q : Value → Shared → Prop} (hk : builtinKind id = none) (hp : plainId id = true)
    (hb : entryFor table id = some b) (ha : argsOk id ⟨args, kw⟩)
    (hc : wpAny (model prog w) A.in1 (b ⟨args, kw⟩) (fun fin s' => match fin with
      | .done f => (match (Except.ok f : Result) with | .ok (.ret v) => Q v s' | .ok _ => False | .error e => E e s')
      | .again c' => c'.quiet = true ∧ codeAny (model prog w) A c' (fun r s' => match r with | .ok (.ret v) => Q v s' | .ok _ => False | .error e => E e s') s') E s) :
    wpAny (model prog w) A (PySem.call (.builtin id) args kw) Q E s := by
  refine wpAny_call (codeAny_call_builtin hp hb ?_)
  simp only [checkBuiltinCall, hk]
  cases hsig : Manifest.signature? id with
  | none => exact wpAny_pure hc
  | some sig =>
    simp only [argsOk, hsig] at ha
    have h2 : Bind.checkArgs id sig ⟨args, kw⟩ = pure () := ha
    show wpAny _ A.in1 (Bind.checkArgs id sig ⟨args, kw⟩) _ _ s
    rw [h2]; exact wpAny_pure hc
section
variable {prog : Program} {w : World} {A : Around} {R : Result → Shared → Prop} {I : Addr} {fp wr : List Addr} {n : Nat} {P : Nat → Value → Prop} {St : Nat → Heap → Prop}
theorem codeAny_minD_loop (W : Walks prog w A.in1 I fp wr n P St) (bt : Nat → Nat → Bool) (hcmp : CmpOf prog w A.in1 .Lt P bt) (S : Addr) (hSf : S ∉ fp) :
    ∀ (k j : Nat) (s : Shared) (vb : Value) (c : Nat), n - (j + 1) = k → j + 1 ≤ n → St (j + 1) s.heap → P (argBest bt j) vb →
    s.heap.get? S = some { cls := .type "list", dict := none, data := .seq #[vb, vb] c, slots := #[] } →
    (∀ v h' tk, P (argBest bt (n - 1)) v → (∀ b o, b ∉ wr → b ≠ S → s.heap.get? b = some o → h'.get? b = some o) → R (.ok (.ret v)) { s with heap := h', toks := tk }) →
    codeAny (model prog w) A (.builtin "min.loop" ⟨[.ref I, .none, .ref S], kwD⟩) R s := by
  have hSw : S ∉ wr := fun h => hSf (W.sub _ h)
  have hname : (toString "min" ++ toString ".loop" : String) = "min.loop" := by decide
  intro k
  induction k with
  | zero =>
    intro j s vb c hk hj hst hPb hS hR
    have hin : j + 1 = n := by omega
    refine codeAny_builtin F.entry_min_loop ?_
    rw [Around.under_plainId F.plain_min_loop _]
    show wpAny _ A.in1 (seqItems? (.ref S) >>= _) _ _ s
    refine wpAny_bind (wpAny_seqItems hS rfl ?_)
    show wpAny _ A.in1 (tryCatch (pyNext (.ref I)) _ >>= _) _ _ s
    refine wpAny_bind (wpAny_tryCatch (W.done s _ _ (hin ▸ hst) fun h' tk hk' => ?_))
    have hS' := hk' S _ hSw hS
    show wpAny _ A.in1 (updateSeq S (fun _ => #[]) >>= _) _ _ _
    refine wpAny_bind ?_
    refine wpAny_updateSeq hS' rfl (wpAny_bind (wpAny_letGo (wpAny_pure ?_)))
    refine hR vb _ tk (by rw [← hin]; exact hPb) fun b o hbw hbS e => (Heap.get?_update_other _ _ (Ne.symm hbS)).trans (hk' b o hbw e)
  | succ k ih =>
    intro j s vb c hk hj hst hPb hS hR
    have hlt : j + 1 < n := by omega
    refine codeAny_builtin F.entry_min_loop ?_
    rw [Around.under_plainId F.plain_min_loop _]
    show wpAny _ A.in1 (seqItems? (.ref S) >>= _) _ _ s
    refine wpAny_bind (wpAny_seqItems hS rfl ?_)
    show wpAny _ A.in1 (tryCatch (pyNext (.ref I)) _ >>= _) _ _ s
    refine wpAny_bind (wpAny_tryCatch (W.item (j + 1) s _ _ hlt hst fun v h' tk hP hst' hk' => ?_))
    have hS' := hk' S _ hSw hS
    show wpAny _ A.in1 (tryCatch (holding [v, v] (richCompare .Lt v vb >>= _)) _ >>= _) _ _ _
    refine wpAny_bind (wpAny_tryCatch (wpAny_holding (wpAny_bind (hcmp (j + 1) (argBest bt j) v vb _ _ _ hP hPb ?_))))
    refine wpAny_bind (wpAny_holding (wpAny_truthy_bool ?_))
    refine wpAny_bind (wpAny_letGo (wpAny_pure ?_))
    cases hb : bt (j + 1) (argBest bt j) with
    | true =>
      simp only [if_true]
      refine wpAny_bind ?_
      refine wpAny_updateSeq hS' rfl (wpAny_bind (wpAny_letGo ?_))
      rw [hname]
      refine wpAny_pure ⟨plainId_quiet F.plain_min_loop _, ih (j + 1) _ v _ (by omega) hlt (W.frame _ _ _ hst' fun b hbf o e => ?_) (by simp only [argBest, hb, if_true]; exact hP) (Heap.get?_update_self _ hS' rfl)
        fun v' h'' tk'' hP' hk'' => ?_⟩
      · exact (Heap.get?_update_other _ _ (fun h : S = b => hSf (by rw [h]; exact hbf))).trans e
      · exact hR v' h'' tk'' hP' fun b o hbw hbS e => hk'' b o hbw hbS ((Heap.get?_update_other _ _ (Ne.symm hbS)).trans (hk' b o hbw e))
    | false =>
      simp only [Bool.false_eq_true, if_false]
      refine wpAny_bind (wpAny_letGo ?_)
      rw [hname]
      refine wpAny_pure ⟨plainId_quiet F.plain_min_loop _, ih (j + 1) _ vb c (by omega) hlt hst' (by simp only [argBest, hb, Bool.false_eq_true, if_false]; exact hPb) hS' fun v' h'' tk'' hP' hk'' => ?_⟩
      exact hR v' h'' tk'' hP' fun b o hbw hbS e => hk'' b o hbw hbS (hk' b o hbw e)
theorem codeAny_minD_first (W : Walks prog w A.in1 I fp wr n P St) (bt : Nat → Nat → Bool) (hcmp : CmpOf prog w A.in1 .Lt P bt) (S : Addr) (hSf : S ∉ fp) {s : Shared} {c : Nat} (hst : St 0 s.heap)
    (hS : s.heap.get? S = some { cls := .type "list", dict := none, data := .seq #[] c, slots := #[] })
    (hR : 0 < n → ∀ v h' tk, P (argBest bt (n - 1)) v → (∀ b o, b ∉ wr → b ≠ S → s.heap.get? b = some o → h'.get? b = some o) → R (.ok (.ret v)) { s with heap := h', toks := tk })
    (hR0 : n = 0 → ∀ h' tk, (∀ b o, b ∉ wr → b ≠ S → s.heap.get? b = some o → h'.get? b = some o) → R (.ok (.ret .none)) { s with heap := h', toks := tk }) :
    codeAny (model prog w) A (.builtin "min.loop" ⟨[.ref I, .none, .ref S], kwD⟩) R s := by
  have hSw : S ∉ wr := fun h => hSf (W.sub _ h)
  have hname : (toString "min" ++ toString ".loop" : String) = "min.loop" := by decide
  refine codeAny_builtin F.entry_min_loop ?_
  rw [Around.under_plainId F.plain_min_loop _]
  show wpAny _ A.in1 (seqItems? (.ref S) >>= _) _ _ s
  refine wpAny_bind (wpAny_seqItems hS rfl ?_)
  show wpAny _ A.in1 (tryCatch (pyNext (.ref I)) _ >>= _) _ _ s
  by_cases hn : 0 < n
  · refine wpAny_bind (wpAny_tryCatch (W.item 0 s _ _ hn hst fun v h' tk hP hst' hk' => ?_))
    have hS' := hk' S _ hSw hS
    show wpAny _ A.in1 (updateSeq S (fun _ => #[v, v]) >>= _) _ _ _
    refine wpAny_bind ?_
    refine wpAny_updateSeq hS' rfl ?_
    rw [hname]
    refine wpAny_pure ⟨plainId_quiet F.plain_min_loop _, codeAny_minD_loop W bt hcmp S hSf _ 0 _ v _ rfl hn (W.frame _ _ _ hst' fun b hbf o e => ?_) hP (Heap.get?_update_self _ hS' rfl) fun v' h'' tk'' hP' hk'' => ?_⟩
    · exact (Heap.get?_update_other _ _ (fun h : S = b => hSf (by rw [h]; exact hbf))).trans e
    · exact hR hn v' h'' tk'' hP' fun b o hbw hbS e => hk'' b o hbw hbS ((Heap.get?_update_other _ _ (Ne.symm hbS)).trans (hk' b o hbw e))
  · have h0 : n = 0 := by omega
    refine wpAny_bind (wpAny_tryCatch (W.done s _ _ (h0 ▸ hst) fun h' tk hk' => ?_))
    refine wpAny_bind (wpAny_rule ?_)
    exact wpAny_pure (hR0 h0 h' tk fun b o hbw _ e => hk' b o hbw e)
end
section
variable {prog : Program} {w : World} {A : Around} {E : Value → Shared → Prop} {s : Shared}
theorem call_minD_walk {x : Value} {Q : Value → Shared → Prop}
    (h : wpAny (model prog w) A.in1 (pyIter x) (fun it s₂ => ∃ I fp wr n P St bt, it = .ref I ∧ Walks prog w A.in1 I fp wr n P St ∧ St 0 s₂.heap ∧ (∀ b ∈ fp, b < s₂.heap.objs.size) ∧ CmpOf prog w A.in1 .Lt P bt ∧
      (0 < n → ∀ v h' tk, P (argBest bt (n - 1)) v → (∀ b o, b ∉ wr → s₂.heap.get? b = some o → h'.get? b = some o) → Q v { s₂ with heap := h', toks := tk }) ∧
      (n = 0 → ∀ h' tk, (∀ b o, b ∉ wr → s₂.heap.get? b = some o → h'.get? b = some o) → Q .none { s₂ with heap := h', toks := tk })) E s) :
    wpAny (model prog w) A (PySem.call (.builtin "min") [x] [(Str.ofString "default", .none)]) Q E s := by
  have hname : (toString "min" ++ toString ".loop" : String) = "min.loop" := by decide
  refine call_function_treeK F.kind_min F.plain_min F.entry_min (args_minD _) ?_
  show wpAny _ A.in1 (Builtin.Builtins.bindParams "min" ["key", "default"] 0 ⟨[], [(Str.ofString "default", .none)]⟩ >>= _) _ _ s
  refine wpAny_bind (wpAny_of_eq (show Builtin.Builtins.bindParams "min" ["key", "default"] 0 ⟨[], [(Str.ofString "default", .none)]⟩ = pure [none, some .none] from by kernel_rfl) ?_)
  refine wpAny_bind (wpAny_pure ?_)
  refine wpAny_bind (wpAny_mono h (fun it s₂ h₂ => ?_) fun _ _ e => e)
  obtain ⟨I, fp, wr, n, P, St, bt, rfl, W, hst, hfp, hcmp, hQ, hQ0⟩ := h₂
  refine wpAny_bind (wpAny_newObj_type ?_)
  have hSf : s₂.heap.objs.size ∉ fp := fun hm => Nat.lt_irrefl _ (hfp _ hm)
  rw [hname]
  refine wpAny_pure ⟨plainId_quiet F.plain_min_loop _, codeAny_minD_first W bt hcmp s₂.heap.objs.size hSf (W.frame _ _ _ hst fun b _ o e => Heap.get?_push_of_some _ e) (Heap.get?_push_size _ rfl) (fun hn v h' tk hP hk => ?_) (fun hn h' tk hk => ?_)⟩
  · exact hQ hn v h' tk hP fun b o hbw e => hk b o hbw (Nat.ne_of_lt (Heap.lt_size e)) (Heap.get?_push_of_some _ e)
  · exact hQ0 hn h' tk fun b o hbw e => hk b o hbw (Nat.ne_of_lt (Heap.lt_size e)) (Heap.get?_push_of_some _ e)
theorem minD_intList {l : Addr} {xs : Array (Int × Tok)} {Q : Value → Shared → Prop} (hh : A.handled = none) (hl : s.heap.IsList l (intItems xs))
    (h : 0 < xs.size → ∀ v h' tk, (intItems xs)[argBest (fun i j => decide (numAt xs i < numAt xs j)) (xs.size - 1)]? = some v → (∀ b o, s.heap.get? b = some o → h'.get? b = some o) → Q v { s with heap := h', toks := tk })
    (h0 : xs.size = 0 → ∀ h' tk, (∀ b o, s.heap.get? b = some o → h'.get? b = some o) → Q .none { s with heap := h', toks := tk }) :
    wpAny (model prog w) A (PySem.call (.builtin "min") [.ref l] [(Str.ofString "default", .none)]) Q E s := by
  refine call_minD_walk (iter_intList hl fun s₂ e st hfp hlI => ?_)
  subst e
  refine ⟨_, _, _, _, _, _, _, rfl, Walks.list (A := A.in1) hh _ l hlI (intItems xs), st, hfp, CmpOf.ints_lt (numAt xs) (fun _ _ => intItems_at), fun hn v h' tk hP hk => ?_, fun hn h' tk hk => ?_⟩
  · exact h (by simpa [intItems] using hn) v h' tk (by simpa [intItems] using hP) (old_kept hk)
  · exact h0 (by simpa [intItems] using hn) h' tk (old_kept hk)
end
/-- min(xs, default=None) -/
def rMinD (K : PySem.W.Frag) : List V → List V → Hp → VK → Prop := fun vs zs H Q => ∃ (a : Addr) (ns : List Int), vs = [V.ref a] ∧ zs = [V.non] ∧ SqL K H a (ns.map V.int) ∧ (ns = [] → Q .non H) ∧ (ns ≠ [] → ∀ m, m ∈ ns → (∀ y, y ∈ ns → m ≤ y) → Q (.int m) H)
theorem cr_minD {X : Cx} (hc : X.calm = true) : CallRK X (.builtin "min") [Str.ofString "default"] (rMinD X.K) := by
  intro pins s σ H vs zs us ws Q I r rz h
  obtain ⟨a, ns, rfl, rfl, hs, q0, q1⟩ := h
  obtain ⟨its, rv, hl, _⟩ := I.list hs
  rw [Vals.ref1 r]
  cases rz with
  | cons rb rr =>
    cases rr
    cases rb
    show wpAny _ _ (PySem.call (.builtin "min") [.ref a] [(Str.ofString "default", .none)]) _ _ _
    have hi := rv.ints
    obtain ⟨xs, e⟩ := hi.allInts.items
    have hn : numsOf (intItems xs).toList = ns := by rw [← e]; exact hi.numsOf
    rw [nums_intItems] at hn
    have hL := hl.isList
    rw [e] at hL
    refine minD_intList (I.ok.hd hc) hL (fun hsz v h' tk hv hk => ?_) (fun hsz h' tk hk => ?_)
    · subst hn
      obtain ⟨t, rfl⟩ := intItems_at hv
      obtain ⟨h1, h2⟩ := argBest_lt (numAt xs) (xs.size - 1)
      refine ⟨.int _, H, I.kept hk, ⟨t, rfl⟩, q1 (fun z => ?_) _ ?_ fun a ha => ?_⟩
      · have z1 := congrArg List.length z
        rw [List.length_map, Array.length_toList] at z1
        simp at z1
        rw [z1] at hsz
        exact absurd hsz (by decide)
      · rw [numAt_eq]; exact PySem.getD_mem (by rw [List.length_map, Array.length_toList]; omega)
      · obtain ⟨j, hj, rfl⟩ := mem_getD ha
        rw [List.length_map, Array.length_toList] at hj
        rw [← numAt_eq]; exact h2 j (by omega)
    · subst hn
      refine ⟨.non, H, I.kept hk, rfl, q0 ?_⟩
      have : xs = #[] := Array.eq_empty_of_size_eq_zero hsz
      rw [this]
      rfl
end Sl
/-! SlMisc -/
namespace Sl
open PySem PySem.Spec PyProof.Rows L2
section
variable {X : Cx}
/-! ### isinstance of a built-in class -/
def rIs (K : PySem.W.Frag) : List V → Hp → VK → Prop := fun xs H Q => ∃ (x : V) (T a : String) (b : Bool), xs = [x, .ty T] ∧ TyX K H x (.type a) ∧ kitB a T = some b ∧ Q (.bl b) H
theorem call_is : CallR X (.builtin "isinstance") (rIs X.K) := by
  intro pins s σ H xs us Q I r h
  obtain ⟨x, T, a, b, rfl, ht, hk, q⟩ := h
  exact call_isi pins s σ H _ us Q I r ⟨x, .ty T, .type a, .type T, b, rfl, .ty T, ht, kit_ty hk, q⟩
/-! ### repr of a bool -/
theorem call_repr_bl : CallR X (.builtin "repr") (fun xs H Q => ∃ b : Bool, xs = [.bl b] ∧ Q (.str (if b then "True" else "False")) H) := by
  intro pins s σ H xs us Q I r h
  obtain ⟨b, rfl, q⟩ := h
  obtain ⟨u, rfl, hu⟩ := vals1 r
  cases hu
  exact PySem.P.repr_of_bool ⟨.str _, H, I.tok _, ⟨_, rfl⟩, q⟩
/-! ### two tests -/
theorem tests_two {prog : Program} {w : World} {A : Around} {E : Value → Shared → Prop} {s : Shared} {env : Env} {c d : Expr} {Q : Bool → Shared → Prop}
    (h : wpAny (model prog w) A (isTrue c env (eval c env)) (fun b s1 => if b = true then wpAny (model prog w) A (isTrue d env (eval d env)) Q E s1 else Q false s1) E s) :
    wpAny (model prog w) A (forIn [c, d] true fun c r => if r = true then do let ok ← isTrue c env (eval c env); pure (ForInStep.yield ok) else pure (ForInStep.yield r)) Q E s := by
  simp only [List.forIn_cons, List.forIn_nil, if_true]
  refine wpAny_bind (wpAny_bind (wpAny_mono h (fun b s' hb => wpAny_pure ?_) fun _ _ x => x))
  cases b with
  | true => exact wpAny_bind (wpAny_bind (wpAny_mono (show wpAny (model prog w) A (isTrue d env (eval d env)) Q E s' from hb) (fun b s' hb => wpAny_pure (wpAny_pure hb)) fun _ _ x => x))
  | false => exact wpAny_bind (wpAny_pure (wpAny_pure hb))
theorem pts_two {c d : Expr} {t u : TT} (h : PT X c t) (h2 : PT X d u) : PTs X [c, d] (tAnd t u) := ⟨fun pins s σ H Q I hw => by
  exact tests_two (thn (h.run pins s σ H _ I hw) fun b s1 ⟨H1, I1, q1⟩ => by
    cases b with
    | true => exact h2.run pins s1 σ H1 Q I1 q1
    | false => exact ⟨H1, I1, q1⟩)⟩
/-! ### text * int -/
def strRep (z : Str) (n : Nat) : Str := ⟨(List.replicate n z.cps).foldl (· ++ ·) #[]⟩
theorem strRep_list (z : Str) (n : Nat) : (strRep z n).cps.toList = (List.replicate n z.cps.toList).flatten := by
  have f : ∀ (k : Nat) (acc : Array Nat), ((List.replicate k z.cps).foldl (· ++ ·) acc).toList = acc.toList ++ (List.replicate k z.cps.toList).flatten := by
    intro k
    induction k with
    | zero => intro acc; simp
    | succ k ih => intro acc; rw [List.replicate_succ, List.foldl_cons, ih, List.replicate_succ, List.flatten_cons, Array.toList_append, List.append_assoc]
  have := f n #[]
  simpa [strRep] using this
theorem op_rep_str : OpR X (binaryOp .Mult) (fun x y H Q => ∃ (z : Str) (n : Int), x = .str z ∧ y = .int n ∧ 2 ≤ n ∧ n ≤ 1000 ∧ 0 < z.length ∧ z.length ≤ 1000 ∧ Q (.str (strRep z n.toNat)) H) := by
  intro pins s σ H x y v u Q I rx ry h
  obtain ⟨z, n, rfl, rfl, h2, h1000, hz0, hz, q⟩ := h
  obtain ⟨t, rfl⟩ := rx
  obtain ⟨t', rfl⟩ := ry
  have hf : (n == 1 || z.length == 0) = false := by
    have a : ¬ n = 1 := by omega
    have b : ¬ z.length = 0 := by omega
    simp [a, b]
  have hl : z.length * n.toNat ≤ 1000000 := Nat.le_trans (Nat.mul_le_mul hz (show n.toNat ≤ 1000 by omega)) (by decide)
  refine PySem.P.mul_str ?_ (fun _ _ => ?_) (fun _ _ => ?_) ?_
  · rw [decide_eq_false (by omega), decide_eq_false (by omega)]; rfl
  · have e : (1000 : Int) ≤ (2 ^ 63 - 1) / n := Int.le_ediv_of_mul_le (by omega) (by omega)
    omega
  · exact decide_eq_false (show ¬ z.length * n.toNat > sizeLine from Nat.not_lt.mpr (Nat.le_trans hl (by decide)))
  · rw [if_neg (by omega), if_neg (by rw [hf]; exact Bool.false_ne_true)]
    exact ⟨PySem.fits_reps (decide_eq_false (show ¬ z.length * n.toNat > sizeLine from Nat.not_lt.mpr (Nat.le_trans hl (by decide)))), .str (strRep z n.toNat), H, I.tok _, ⟨_, rfl⟩, q⟩
/-! ### xs[a::k] of a list of ints: some ints of it -/
def tSlStep (K : PySem.W.Frag) (te tl ts : TE) : TE := fun σ H Q => te σ H fun x H1 => tl σ H1 fun y H2 => ts σ H2 fun z H3 => ∃ (a : Addr) (ns : List Int) (i k : Int), x = .ref a ∧ y = .int i ∧ z = .int k ∧ k ≠ 0 ∧ SqL K H3 a (ns.map V.int) ∧
  ∀ (ms : List Int) (p : Addr), ms.length ≤ ns.length → H3 p = none → Q (.ref p) (upd H3 p (.lst (ms.map V.int)))
theorem ints_sub {ns : List Int} {us ws : List Value} (r : Vals (ns.map V.int) us) (h : ∀ w ∈ ws, w ∈ us) : ∃ ms : List Int, Vals (ms.map V.int) ws := by
  induction ws with
  | nil => exact ⟨[], .nil⟩
  | cons w ws ih =>
    obtain ⟨ms, hm⟩ := ih fun x hx => h x (List.mem_cons_of_mem _ hx)
    obtain ⟨j, hj⟩ := List.getElem?_of_mem (h w List.mem_cons_self)
    have hj2 : j < (ns.map V.int).length := by rw [r.length]; exact (List.getElem?_eq_some_iff.mp hj).1
    obtain ⟨u, hu, ru⟩ := r.get (i := j) (x := (ns.map V.int)[j]) (by simp [hj2])
    rw [hj] at hu; cases hu
    rw [List.getElem_map] at ru
    exact ⟨ns[j]'(by simpa using hj2) :: ms, .cons ru hm⟩
theorem pe_slStep {e lo st : Expr} {te tl ts : TE} {p3 pos : Pos} (he : PE X e te) (hl : PE X lo tl) (hst : PE X st ts) : PE X (.Subscript e (.Slice (some lo) none (some st) p3) pos) (tSlStep X.K te tl ts) := by
  refine ⟨fun pins s σ H Q I h => ?_⟩
  refine Subscript_ (thn (he.run pins s σ H _ I h) fun v s1 ⟨x, H1, I1, r1, q1⟩ => ?_)
  refine wpAny_Slice ?_
  show wpAny _ _ (eval lo X.env) _ _ _
  refine thn (hl.run pins s1 σ H1 _ I1 q1) fun vl s2 ⟨y, H2, I2, rl, q2⟩ => ?_
  rw [evalPart_none]
  refine wpAny_pure ?_
  show wpAny _ _ (eval st X.env) _ _ _
  refine thn (hst.run pins s2 σ H2 _ I2 q2) fun vs s3 ⟨z, H3, I3, rs, q3⟩ => ?_
  obtain ⟨a, ns, i, k, ex, ey, ez, hk, hx, q⟩ := q3
  subst ex ey ez
  cases r1
  obtain ⟨ti, rfl⟩ := rl
  obtain ⟨tk, rfl⟩ := rs
  have I5 : Inv X pins σ H3 { s3 with heap := s3.heap.push { cls := .type "slice", data := .fields #[.int i ti, .none, .int k tk] } } := I3.kept (t' := s3.toks) fun b ob q => Heap.get?_push_of_some _ q
  obtain ⟨its, r, ht, hz⟩ := I5.list hx
  have hlen := r.length
  show wpAny (model X.prog X.w) X.A (subscriptTail e (.Slice (some lo) none (some st) p3) (.ref a) (.ref s3.heap.objs.size)) (EP X pins σ Q) X.xe { s3 with heap := s3.heap.push { cls := .type "slice", data := .fields #[.int i ti, .none, .int k tk] } }
  refine tail_any (ops := [.ref a, .ref s3.heap.objs.size]) ht.isList.typeIs (PySem.slot_list_getitem.lookup) ?_ (by with_unfolding_all rfl)
  refine wpAny_getItem_list_slice (lo := some i) (hi := none) (st := some k) ht.isList (Heap.IsSliceOf.new _ _ _ _) (IsPart.int i ti) IsPart.none (IsPart.int k tk) (fun z => hk (Option.some.inj z)) ?_ (by rw [List.size_toArray]; omega)
  obtain ⟨ms, hm⟩ := ints_sub (ws := (slicePick its.toArray (some i) none (some k)).toList) r (fun w hw => by
    unfold slicePick at hw
    simp only [List.mem_filterMap] at hw
    obtain ⟨j, _, hj⟩ := hw
    have := Array.mem_of_getElem? hj
    simpa using this)
  have hml : ms.length ≤ ns.length := by
    have h1 : (ms.map V.int).length = (slicePick its.toArray (some i) none (some k)).toList.length := hm.length
    have h2 : (slicePick its.toArray (some i) none (some k)).size ≤ its.length := slicePick_size_le its.toArray (some i) none (some k)
    have h3 : (slicePick its.toArray (some i) none (some k)).toList.length = (slicePick its.toArray (some i) none (some k)).size := Array.length_toList
    rw [List.length_map] at hlen h1
    rw [hlen, h1, h3]
    exact h2
  refine ⟨.ref _, _, I5.laid (t' := s3.toks) (o := .lst (ms.map V.int)) (fun b ob q => Heap.get?_push_of_some _ q) (Nat.le_refl _) ?_, rfl, q ms _ hml (I5.hok.fresh (Nat.le_refl _))⟩
  rw [List.length_map] at hz
  exact ⟨by rw [List.length_map]; omega, _, 0, hm, Heap.get?_push_size _ rfl⟩
end
end Sl
/-! SlK -/
set_option maxHeartbeats 4000000
namespace Sl
open PySem PySem.Spec PyProof.Rows L2
/-! ### the rules, the written part by name (so that a comprehension's reading does not name its block) -/
section
variable {X : Cx} (K : PySem.W.Frag)
theorem k_ix_list (h : X.K = K := by rfl) : IxR X (rIxL K) := by subst h; exact ix_list
theorem k_ix_tup (h : X.K = K := by rfl) : IxR X (rIxT K) := by subst h; exact ix_tup
theorem k_sl_list (h : X.K = K := by rfl) : SlR X (rSlL K) := by subst h; exact sl_list
theorem k_sl_tupA (h : X.K = K := by rfl) : SlR X (rSlA K) := by subst h; exact sl_tupA
theorem k_op_catA (h : X.K = K := by rfl) : OpR X (binaryOp .Add) (rCatA K) := by subst h; exact op_catA
theorem k_op_in_seq (h : X.K = K := by rfl) : OpR X (compareOp .In) (rIn K false) := by subst h; exact op_in_seq
theorem k_op_notIn_seq (h : X.K = K := by rfl) : OpR X (compareOp .NotIn) (rIn K true) := by subst h; exact op_notIn_seq
theorem k_op_eqD (hu : X.A.units + 64 < cLine) (h : X.K = K := by rfl) : OpR X (compareOp .Eq) (rEqD K) := by subst h; exact op_eqD hu
theorem k_op_neD (hu : X.A.units + 64 < cLine) (h : X.K = K := by rfl) : OpR X (compareOp .NotEq) (rNeD K) := by subst h; exact op_neD hu
theorem k_op_notInD (hu : X.A.units + 65 < cLine) (h : X.K = K := by rfl) : OpR X (compareOp .NotIn) (rNotInD K) := by subst h; exact op_notInD hu
def rLenS (K : PySem.W.Frag) : List V → Hp → VK → Prop := fun xs H Q => ∃ p ys, xs = [.ref p] ∧ (SqL K H p ys ∨ SqT K H p ys) ∧ Q (.int ys.length) H
def rListS (K : PySem.W.Frag) : List V → Hp → VK → Prop := fun xs H Q => ∃ p ys, xs = [.ref p] ∧ (SqL K H p ys ∨ SqT K H p ys) ∧ ∀ l, H l = none → Q (.ref l) (upd H l (.lst ys))
def rTupS (K : PySem.W.Frag) : List V → Hp → VK → Prop := fun xs H Q => ∃ p ys, xs = [.ref p] ∧ ((SqL K H p ys ∧ ∀ l, H l = none → Q (.ref l) (upd H l (.tup ys))) ∨ (SqT K H p ys ∧ Q (.ref p) H))
theorem k_len_seq (h : X.K = K := by rfl) : CallR X (.builtin "len") (rLenS K) := by subst h; exact call_len_seq
theorem k_list_of (h : X.K = K := by rfl) : CallR X (.type "list") (rListS K) := by subst h; exact call_list_of
theorem k_tuple_of (h : X.K = K := by rfl) : CallR X (.type "tuple") (rTupS K) := by subst h; exact call_tuple_of
theorem k_sum (hc : X.calm = true := by rfl) (h : X.K = K := by rfl) : CallR X (.builtin "sum") (rSum K) := by subst h; exact cr_sum hc
theorem k_all (hc : X.calm = true := by rfl) (h : X.K = K := by rfl) : CallR X (.builtin "all") (rAll K) := by subst h; exact cr_all hc
theorem k_min (hc : X.calm = true := by rfl) (h : X.K = K := by rfl) : CallR X (.builtin "min") (rMin K) := by subst h; exact cr_min hc
theorem k_sorted (h : X.K = K := by rfl) : CallR X (.builtin "sorted") (rSortedI K) := by subst h; exact cr_sortedI
theorem k_is (h : X.K = K := by rfl) : CallR X (.builtin "isinstance") (rIs K) := by subst h; exact call_is
theorem k_index (h : X.K = K := by rfl) : MtR X "list.index" (rIndex K) := by subst h; exact mt_index
theorem k_minD (hc : X.calm = true := by rfl) (h : X.K = K := by rfl) : CallRK X (.builtin "min") [Str.ofString "default"] (rMinD K) := by subst h; exact cr_minD hc
variable {p pos apos cpos : Pos} {e o : Expr} {es : List Expr} {t : TA} {ta to te : TE} {tg : Expr}
theorem k_fld {f : Str} (he : PE X e ta) (hb : attributeBase e f X.env (eval e X.env) = eval e X.env := by rfl) (h : X.K = K := by rfl) : PE X (.Attribute e f pos) (tFld K ta f) := by subst h; exact pe_fld he hb
theorem k_list (hl : PE X e ta) (h : X.K = K := by rfl) : PI X tg e (iList K ta) := by subst h; exact pi_list hl
theorem k_tup (hl : PE X e ta) (h : X.K = K := by rfl) : PI X tg e (iTup K ta) := by subst h; exact pi_tup hl
/-- xs.append(e) -/
theorem k_append (ho : PE X o to) (ha : PE X e te)
    (hbase : attributeBase o "append" X.env (eval o X.env) = eval o X.env := by rfl)
    (hfew : ((backTo cpos (starEach (e :: []) X.env)).all (fun x => !x.1) && (backToKw cpos (keywordEach [] X.env)).all (fun x => x.1.isSome)
      && decide ((e :: []).length + ([] : List Keyword).length + (if ([] : List Keyword).isEmpty then 0 else 1) < 30)) = true := by rfl)
    (hline : (apos.endLine == cpos.line) = true := by rfl) (hs : starEach (e :: []) X.env = (false, eval e X.env) :: starEach [] X.env := by rfl) (h : X.K = K := by rfl) :
    PE X (.Call (.Attribute o "append" apos) [e] [] cpos) (tBM K "list" rAppend to (tCons te tNil)) := by
  subst h
  exact pe_bm PySem.F.plainAttrs_list PySem.F.slot_list_append PySem.F.type_list_append mt_append ho (pa_cons ha pa_nil hs) hbase hfew hline hs rfl
theorem k_popAt (ho : PE X o to) (ha : PE X e te)
    (hbase : attributeBase o "pop" X.env (eval o X.env) = eval o X.env := by rfl)
    (hfew : ((backTo cpos (starEach (e :: []) X.env)).all (fun x => !x.1) && (backToKw cpos (keywordEach [] X.env)).all (fun x => x.1.isSome)
      && decide ((e :: []).length + ([] : List Keyword).length + (if ([] : List Keyword).isEmpty then 0 else 1) < 30)) = true := by rfl)
    (hline : (apos.endLine == cpos.line) = true := by rfl) (hs : starEach (e :: []) X.env = (false, eval e X.env) :: starEach [] X.env := by rfl) (h : X.K = K := by rfl) :
    PE X (.Call (.Attribute o "pop" apos) [e] [] cpos) (tBM K "list" rPopAt to (tCons te tNil)) := by
  subst h
  exact pe_bm PySem.F.plainAttrs_list PySem.F.slot_list_pop PySem.F.type_list_pop mt_popAt ho (pa_cons ha pa_nil hs) hbase hfew hline hs rfl
theorem k_pop (ho : PE X o to)
    (hbase : attributeBase o "pop" X.env (eval o X.env) = eval o X.env := by rfl)
    (hline : (apos.endLine == cpos.line) = true := by rfl) (h : X.K = K := by rfl) :
    PE X (.Call (.Attribute o "pop" apos) [] [] cpos) (tBM0 K "list" rPop to) := by
  subst h
  exact pe_bm0 PySem.F.plainAttrs_list PySem.F.slot_list_pop PySem.F.type_list_pop mt_pop ho hbase hline
theorem k_indexM (ho : PE X o to) (ha : PE X e te)
    (hbase : attributeBase o "index" X.env (eval o X.env) = eval o X.env := by rfl)
    (hfew : ((backTo cpos (starEach (e :: []) X.env)).all (fun x => !x.1) && (backToKw cpos (keywordEach [] X.env)).all (fun x => x.1.isSome)
      && decide ((e :: []).length + ([] : List Keyword).length + (if ([] : List Keyword).isEmpty then 0 else 1) < 30)) = true := by rfl)
    (hline : (apos.endLine == cpos.line) = true := by rfl) (hs : starEach (e :: []) X.env = (false, eval e X.env) :: starEach [] X.env := by rfl) (h : X.K = K := by rfl) :
    PE X (.Call (.Attribute o "index" apos) [e] [] cpos) (tBM K "list" (rIndex K) to (tCons te tNil)) := by
  subst h
  exact pe_bm PySem.F.plainAttrs_list PySem.F.slot_list_index PySem.F.type_list_index mt_index ho (pa_cons ha pa_nil hs) hbase hfew hline hs rfl
theorem k_remove (ho : PE X o to) (ha : PE X e te)
    (hbase : attributeBase o "remove" X.env (eval o X.env) = eval o X.env := by rfl)
    (hfew : ((backTo cpos (starEach (e :: []) X.env)).all (fun x => !x.1) && (backToKw cpos (keywordEach [] X.env)).all (fun x => x.1.isSome)
      && decide ((e :: []).length + ([] : List Keyword).length + (if ([] : List Keyword).isEmpty then 0 else 1) < 30)) = true := by rfl)
    (hline : (apos.endLine == cpos.line) = true := by rfl) (hs : starEach (e :: []) X.env = (false, eval e X.env) :: starEach [] X.env := by rfl) (h : X.K = K := by rfl) :
    PE X (.Call (.Attribute o "remove" apos) [e] [] cpos) (tBM K "list" rRemI to (tCons te tNil)) := by
  subst h
  exact pe_bm PySem.F.plainAttrs_list PySem.F.slot_list_remove PySem.F.type_list_remove mt_remove ho (pa_cons ha pa_nil hs) hbase hfew hline hs rfl
theorem k_join {apos pos : Pos} (ho : PE X o to) (he : PE X e te) (hs : starEach [e] X.env = [(false, eval e X.env)] := by rfl) (hbase : attributeBase o "join" X.env (eval o X.env) = eval o X.env := by rfl) (hline : (apos.endLine == pos.line) = true := by rfl) (h : X.K = K := by rfl) :
    PE X (.Call (.Attribute o "join" apos) [e] [] pos) (tM1 (fun x xs H Q => ∃ a p, ∃ ys : List Str, x = .str a ∧ xs = [.ref p] ∧ (SqL K H p (ys.map V.str) ∨ SqT K H p (ys.map V.str)) ∧ (ys.map (·.length)).sum + ys.length * a.length ≤ 16777216 ∧ Q (.str (Txt.join a ys)) H) to te) := by
  subst h
  exact pe_join ho he hs hbase hline
end
/-! ### methods and makings of the program's classes -/
section
variable {X : Cx} {k : Nat} {x : Str} {ps : List Str} {sp : Sp} {p pos apos : Pos} {e o : Expr} {es : List Expr} {t : TA} {ta : TE}
theorem k_calm (K : PySem.W.Frag) {C m : Str} {pl : Sem Bool} (c : CalM (Wof X) k C m ps sp) (cl : Cls K (He.ga K C)) (hr : Room k X.A) (ho : PE X o ta) (ha : PA X (e :: es) t)
    (hst : starEach (e :: es) X.env = (false, eval e X.env) :: starEach es X.env := by rfl) (hpl : (backTo pos (starEach es X.env)).any (·.1) = false := by rfl)
    (ht : eval (.Call (.Attribute o m apos) (e :: es) [] pos) X.env = (do
      let ov ← eval o X.env
      standAt apos.atName
      let (f, first) ← holding [ov] (getMethod ov m pl)
      callWith pos f first (backTo pos (starEach (e :: es) X.env)) (backToKw pos (keywordEach [] X.env))) := by rfl) (h : X.K = K := by rfl) :
    PE X (.Call (.Attribute o m apos) (e :: es) [] pos) (tMeth (He.ga K C) m sp [] E0 ta t) := by
  subst h
  exact pe_calm c cl hr ho ha hst hpl ht
theorem k_calm0 (K : PySem.W.Frag) {C m : Str} {pl : Sem Bool} (c : CalM (Wof X) k C m ps sp) (cl : Cls K (He.ga K C)) (hr : Room k X.A) (ho : PE X o ta)
    (ht : eval (.Call (.Attribute o m apos) [] [] pos) X.env = (do
      let ov ← eval o X.env
      standAt apos.atName
      let (f, first) ← holding [ov] (getMethod ov m pl)
      callWith pos f first (backTo pos (starEach [] X.env)) (backToKw pos (keywordEach [] X.env))) := by rfl) (h : X.K = K := by rfl) :
    PE X (.Call (.Attribute o m apos) [] [] pos) (tMeth (He.ga K C) m sp [] E0 ta tNil) := by
  subst h
  exact pe_calm0 c cl hr ho ht
end
/-! ### o.f among several targets -/
def gFld (K : PySem.W.Frag) (to : TE) (f : Str) : TG := fun v σ H Q => to σ H fun x H1 => ∃ a C dx fs, x = .ref a ∧ H1 a = some (.ins C dx fs) ∧ Cls K C ∧ NoAttr K C f ∧ fs.length < 1000 ∧ Q σ (upd H1 a (.ins C dx (putF f v fs)))
theorem k_pgfld {X : Cx} (K : PySem.W.Frag) {o : Expr} {f : Str} {pos : Pos} {to : TE} (ho : PE X o to) (h : X.K = K := by rfl) : PG X (.Attribute o f pos) (gFld K to f) := by
  subst h
  refine ⟨fun pins s σ H v u Q I r h => ?_⟩
  rw [assign_Attribute]
  refine wpAny_bind (wpAny_holding (thn (ho.run pins s σ H _ I h) fun ov s1 ⟨x, H1, I1, r1, a, C, dx, fs, ex, ea, c, n, l, q2⟩ => ?_))
  subst ex
  obtain rfl : ov = Value.ref a := r1
  exact wpAny_bind (wpAny_standAt (wpAny_bind (wpAny_holding (setattr_ok I1 ea c n l r fun s3 I3 => wpAny_release ⟨σ, _, I3, q2⟩))))
end Sl
/-! SlData -/
namespace Sl
open PySem PySem.Spec PyProof.Rows L2
/-! ### data that == compares -/
def pInts (ns : List Int) : List PyData := ns.map PyData.int
theorem pInts_lay : ∀ ns : List Int, PyData.canLayAll0 (pInts ns) = true
  | [] => by simp [pInts, PyData.canLayAll0]
  | n :: ns => by
    have := pInts_lay ns
    simp only [pInts, List.map_cons, PyData.canLayAll0, PyData.canLay0, Bool.true_and] at *
    exact this
theorem pInts_depth : ∀ ns : List Int, PyData.depthAll (pInts ns) ≤ 1
  | [] => by simp [pInts, PyData.depthAll]
  | n :: ns => by
    have := pInts_depth ns
    simp only [pInts, List.map_cons, PyData.depthAll, PyData.depth] at *
    omega
theorem pInts_eqv : ∀ ns ms : List Int, PyData.eqvAll (pInts ns) (pInts ms) = decide (ns = ms)
  | [], [] => by simp [pInts, PyData.eqvAll]
  | [], _ :: _ => by simp [pInts, PyData.eqvAll]
  | _ :: _, [] => by simp [pInts, PyData.eqvAll]
  | n :: ns, m :: ms => by
    have := pInts_eqv ns ms
    simp only [pInts, List.map_cons, PyData.eqvAll, PyData.eqv] at *
    rw [this, Bool.eq_iff_iff]
    simp
theorem shaped_of {d : PyData} (h1 : d.canLay0 = true) (h2 : d.depth ≤ 64) : SeqAt.shaped d = true := by
  show (d.canLay0 && decide (d.depth ≤ 64)) = true
  rw [h1, decide_eq_true h2]
  rfl
theorem shaped_tI (ns : List Int) : SeqAt.shaped (.tuple (pInts ns)) = true := shaped_of (by simp only [PyData.canLay0]; exact pInts_lay ns) (by have := pInts_depth ns; simp only [PyData.depth]; omega)
theorem shaped_lI (ns : List Int) : SeqAt.shaped (.list (pInts ns)) = true := shaped_of (by simp only [PyData.canLay0]; exact pInts_lay ns) (by have := pInts_depth ns; simp only [PyData.depth]; omega)
theorem eqv_tI (ns ms : List Int) : PyData.eqv (.tuple (pInts ns)) (.tuple (pInts ms)) = decide (ns = ms) := by simp only [PyData.eqv]; exact pInts_eqv ns ms
theorem eqv_lI (ns ms : List Int) : PyData.eqv (.list (pInts ns)) (.list (pInts ms)) = decide (ns = ms) := by simp only [PyData.eqv]; exact pInts_eqv ns ms
theorem dpAll_ints {K : PySem.W.Frag} {H : Hp} : ∀ ns : List Int, DpAll K H (ns.map V.int) (pInts ns)
  | [] => .nil
  | n :: ns => .cons (.int n) (dpAll_ints ns)
theorem dp_tI {K : PySem.W.Frag} {H : Hp} {a : Addr} {ns : List Int} (h : SqT K H a (ns.map V.int)) : Dp K H (.ref a) (.tuple (pInts ns)) := .tup h (dpAll_ints ns)
theorem dp_lI {K : PySem.W.Frag} {H : Hp} {a : Addr} {ns : List Int} (h : SqL K H a (ns.map V.int)) : Dp K H (.ref a) (.list (pInts ns)) := .lst h (dpAll_ints ns)
theorem dp_l0 {K : PySem.W.Frag} {H : Hp} {a : Addr} (h : H a = some (.lst [])) : Dp K H (.ref a) (.list (pInts [])) := .lst (SqL.of h) .nil
theorem dp_t0 {K : PySem.W.Frag} {H : Hp} {a : Addr} (h : H a = some (.tup [])) : Dp K H (.ref a) (.tuple (pInts [])) := .tup (SqT.of h) .nil
/-! ### trees -/
inductive Tree where
  | nil
  | node (k : Int) (l r : Tree)
  deriving DecidableEq
def Tree.py : Tree → PyData
  | .nil => .none
  | .node k l r => .tuple [.int k, l.py, r.py]
def Tree.height : Tree → Nat
  | .nil => 0
  | .node _ l r => 1 + max l.height r.height
def Tree.size : Tree → Nat
  | .nil => 0
  | .node _ l r => l.size + r.size + 1
theorem Tree.height_le : ∀ t : Tree, t.height ≤ t.size
  | .nil => Nat.le_refl _
  | .node _ l r => by
    have h1 := l.height_le
    have h2 := r.height_le
    simp only [Tree.height, Tree.size]
    omega
theorem Tree.py_lay : ∀ t : Tree, t.py.canLay0 = true
  | .nil => by simp only [Tree.py, PyData.canLay0]
  | .node k l r => by simp only [Tree.py, PyData.canLay0, PyData.canLayAll0, l.py_lay, r.py_lay, Bool.and_self]
theorem Tree.py_depth : ∀ t : Tree, t.py.depth ≤ t.height
  | .nil => by simp [Tree.py, PyData.depth]
  | .node k l r => by
    have h1 := l.py_depth
    have h2 := r.py_depth
    simp only [Tree.py, PyData.depth, PyData.depthAll, Tree.height]
    omega
theorem Tree.py_eqv : ∀ t u : Tree, PyData.eqv t.py u.py = decide (t = u)
  | .nil, .nil => by simp [Tree.py, PyData.eqv]
  | .nil, .node _ _ _ => by simp [Tree.py, PyData.eqv]
  | .node _ _ _, .nil => by simp [Tree.py, PyData.eqv]
  | .node k l r, .node k' l' r' => by
    have h1 := Tree.py_eqv l l'
    have h2 := Tree.py_eqv r r'
    simp only [Tree.py, PyData.eqv, PyData.eqvAll, h1, h2, Bool.and_true]
    rw [Bool.eq_iff_iff]
    simp
/-- a tree at a value: tuples of three -/
def TreeAt (K : PySem.W.Frag) (H : Hp) : V → Tree → Prop
  | v, .nil => v = .non
  | v, .node k l r => ∃ q vl vr, v = .ref q ∧ SqT K H q [.int k, vl, vr] ∧ TreeAt K H vl l ∧ TreeAt K H vr r
theorem TreeAt.mono {K : PySem.W.Frag} {H H' : Hp} (e : Im K H H') : ∀ {t : Tree} {v : V}, TreeAt K H v t → TreeAt K H' v t
  | .nil, _, h => h
  | .node k l r, _, h => by
    obtain ⟨q, vl, vr, h1, h2, h3, h4⟩ := h
    exact ⟨q, vl, vr, h1, e _ _ h2, TreeAt.mono e h3, TreeAt.mono e h4⟩
theorem TreeAt.dp {K : PySem.W.Frag} {H : Hp} : ∀ {t : Tree} {v : V}, TreeAt K H v t → Dp K H v t.py
  | .nil, _, h => by rw [show _ = V.non from h]; exact .non
  | .node k l r, _, h => by
    obtain ⟨q, vl, vr, h1, h2, h3, h4⟩ := h
    subst h1
    exact .tup h2 (.cons (.int k) (.cons h3.dp (.cons h4.dp .nil)))
theorem shaped_tree {t : Tree} (h : t.height ≤ 60) : SeqAt.shaped t.py = true := shaped_of t.py_lay (Nat.le_trans t.py_depth (by omega))
def pTrees (ts : List Tree) : List PyData := ts.map Tree.py
theorem pTrees_lay : ∀ ts : List Tree, PyData.canLayAll0 (pTrees ts) = true
  | [] => by simp [pTrees, PyData.canLayAll0]
  | n :: ns => by
    have := pTrees_lay ns
    simp only [pTrees, List.map_cons, PyData.canLayAll0, n.py_lay, Bool.true_and] at *
    exact this
theorem pTrees_depth : ∀ ts : List Tree, (∀ t ∈ ts, t.height ≤ 60) → PyData.depthAll (pTrees ts) ≤ 61
  | [], _ => by simp [pTrees, PyData.depthAll]
  | n :: ns, h => by
    have h1 := pTrees_depth ns fun t ht => h t (List.mem_cons_of_mem _ ht)
    have h2 := n.py_depth
    have h3 := h n List.mem_cons_self
    simp only [pTrees, List.map_cons, PyData.depthAll] at *
    omega
theorem pTrees_eqv : ∀ ns ms : List Tree, PyData.eqvAll (pTrees ns) (pTrees ms) = decide (ns = ms)
  | [], [] => by simp [pTrees, PyData.eqvAll]
  | [], _ :: _ => by simp [pTrees, PyData.eqvAll]
  | _ :: _, [] => by simp [pTrees, PyData.eqvAll]
  | n :: ns, m :: ms => by
    have := pTrees_eqv ns ms
    simp only [pTrees, List.map_cons, PyData.eqvAll, Tree.py_eqv] at *
    rw [this, Bool.eq_iff_iff]
    simp
theorem shaped_trees {ts : List Tree} (h : ∀ t ∈ ts, t.height ≤ 60) : SeqAt.shaped (.list (pTrees ts)) = true := shaped_of (by simp only [PyData.canLay0]; exact pTrees_lay ts) (by have := pTrees_depth ts h; simp only [PyData.depth]; omega)
def TreesAt (K : PySem.W.Frag) (H : Hp) (vs : List V) (ts : List Tree) : Prop := Paired (TreeAt K H) vs ts
theorem TreesAt.dp {K : PySem.W.Frag} {H : Hp} : ∀ {vs : List V} {ts : List Tree}, TreesAt K H vs ts → DpAll K H vs (pTrees ts)
  | _, _, .nil => .nil
  | _, _, .cons a r => .cons a.dp (TreesAt.dp r)
theorem TreesAt.mono {K : PySem.W.Frag} {H H' : Hp} (e : Im K H H') {vs : List V} {ts : List Tree} (h : TreesAt K H vs ts) : TreesAt K H' vs ts := Paired.mapP h fun _ _ q => q.mono e
end Sl
/-! SlW1 -/
namespace Sl
open PySem PySem.Spec PyProof.Rows L2
/-! ### letters -/
def isLet (c : Nat) : Prop := 97 ≤ c ∧ c ≤ 122
instance (c : Nat) : Decidable (isLet c) := inferInstanceAs (Decidable (_ ∧ _))
/-- the text of one sign -/
abbrev sg (c : Nat) : Str := ⟨#[c]⟩
theorem mem_letters (c : Nat) : c ∈ ("abcdefghijklmnopqrstuvwxyz" : Str).cps.toList ↔ isLet c := by
  have e : ("abcdefghijklmnopqrstuvwxyz" : Str).cps.toList = [97,98,99,100,101,102,103,104,105,106,107,108,109,110,111,112,113,114,115,116,117,118,119,120,121,122] := by decide +kernel
  rw [e]
  unfold isLet
  constructor
  · intro h
    simp only [List.mem_cons, List.not_mem_nil, or_false] at h
    omega
  · intro h
    have : ∀ d, d < 26 → (97 + d) ∈ [97,98,99,100,101,102,103,104,105,106,107,108,109,110,111,112,113,114,115,116,117,118,119,120,121,122] := by decide
    have := this (c - 97) (by omega)
    rwa [show 97 + (c - 97) = c by omega] at this
theorem dec_letters (c : Nat) : decide (c ∈ ("abcdefghijklmnopqrstuvwxyz" : Str).cps.toList) = decide (isLet c) := by simp only [mem_letters]
/-- a good word -/
structure GoodW (z : Str) : Prop where
  len : z.cps.size ≤ 120
  let_ : ∀ c ∈ z.cps.toList, isLet c
/-- a rule: its three signs, its price -/
structure Rule where
  a : Nat
  x : Nat
  b : Nat
  p : Int
structure GoodR (r : Rule) : Prop where
  a : isLet r.a ∨ r.a = 60 ∨ r.a = 42
  x : isLet r.x
  b : isLet r.b ∨ r.b = 62 ∨ r.b = 42
  p0 : 0 ≤ r.p
  p1 : r.p ≤ 999
def ruleV (r : Rule) : List V := [.str (sg r.a), .str (sg r.x), .str (sg r.b), .int r.p]
/-- the book's items -/
def Rules (K : PySem.W.Frag) (H : Hp) (xs : List V) (rs : List Rule) : Prop := Paired (fun v r => ∃ q, v = V.ref q ∧ SqT K H q (ruleV r)) xs rs
structure BookAt (K : PySem.W.Frag) (H : Hp) (p : Addr) (xs : List V) (rs : List Rule) : Prop where
  sq : SqT K H p xs
  rs : Rules K H xs rs
structure GoodB (rs : List Rule) : Prop where
  len : rs.length ≤ 80
  good : ∀ r ∈ rs, GoodR r
theorem Rules.mono {K : PySem.W.Frag} {H H' : Hp} {xs : List V} {rs : List Rule} (h : Rules K H xs rs) (e : Im K H H') : Rules K H' xs rs :=
  Paired.mapP h fun v r ⟨q, hv, hq⟩ => ⟨q, hv, e q _ hq⟩
theorem BookAt.mono {K : PySem.W.Frag} {H H' : Hp} {p : Addr} {xs : List V} {rs : List Rule} (h : BookAt K H p xs rs) (e : Im K H H') : BookAt K H' p xs rs := ⟨e _ _ h.sq, h.rs.mono e⟩
theorem Paired.at {α β : Type} {F : α → β → Prop} : ∀ {l1 : List α} {l2 : List β} {i : Nat} {x : α}, Paired F l1 l2 → l1[i]? = some x → ∃ y, l2[i]? = some y ∧ F x y
  | _, _, _, _, .nil, h => by simp at h
  | _, _, 0, _, .cons a r, h => by simp at h; subst h; exact ⟨_, rfl, a⟩
  | _, _, i + 1, x, .cons a r, h => by
    obtain ⟨y, h1, h2⟩ := Paired.at (i := i) (x := x) r (by simpa using h)
    exact ⟨y, by simpa using h1, h2⟩
/-- whether a rule fits a case -/
def fits (r : Rule) (A X B : Nat) : Bool := decide (r.x = X) && (decide (r.a = A ∨ r.a = 42) && decide (r.b = B ∨ r.b = 42))
/-! ### the words' and books' looks -/
theorem sc_is_whole : FnScope ["thing", "least", "most"] ["thing", "least", "most"] (defScope s_is_whole) := ⟨rfl, rfl, rfl, by decide +kernel, rfl, by decide +kernel, by decide +kernel⟩
theorem sc_is_letter : FnScope ["thing"] ["thing"] (defScope s_is_letter) := ⟨rfl, rfl, rfl, by decide +kernel, rfl, by decide +kernel, by decide +kernel⟩
theorem bd_is_letter : Bnd d_is_letter ["thing"] := fun _ _ _ _ _ _ us hl => match us, hl with | [_], _ => rfl
theorem sc_need_word : FnScope ["thing", "place", "sign"] ["thing"] (defScope s_need_word) := ⟨rfl, rfl, rfl, by decide +kernel, rfl, by decide +kernel, by decide +kernel⟩
theorem bd_need_word : Bnd d_need_word ["thing"] := fun _ _ _ _ _ _ us hl => match us, hl with | [_], _ => rfl
theorem sc_is_side : FnScope ["thing", "end"] ["thing", "end"] (defScope s_is_side) := ⟨rfl, rfl, rfl, by decide +kernel, rfl, by decide +kernel, by decide +kernel⟩
theorem bd_is_side : Bnd d_is_side ["thing", "end"] := fun _ _ _ _ _ _ us hl => match us, hl with | [_, _], _ => rfl
theorem sc_rule_looks : FnScope ["thing", "sides"] ["thing"] (defScope s_rule_looks) := ⟨rfl, rfl, rfl, by decide +kernel, rfl, by decide +kernel, by decide +kernel⟩
theorem bd_rule_looks : Bnd d_rule_looks ["thing"] := fun _ _ _ _ _ _ us hl => match us, hl with | [_], _ => rfl
theorem sc_need_book : FnScope ["thing", "place", "rule"] ["thing"] (defScope s_need_book) := ⟨rfl, rfl, rfl, by decide +kernel, rfl, by decide +kernel, by decide +kernel⟩
theorem bd_need_book : Bnd d_need_book ["thing"] := fun _ _ _ _ _ _ us hl => match us, hl with | [_], _ => rfl
theorem sc_fits_case : FnScope ["rule", "case"] ["rule", "case"] (defScope s_fits_case) := ⟨rfl, rfl, rfl, by decide +kernel, rfl, by decide +kernel, by decide +kernel⟩
theorem bd_fits_case : Bnd d_fits_case ["rule", "case"] := fun _ _ _ _ _ _ us hl => match us, hl with | [_, _], _ => rfl
theorem sc_price_there : FnScope ["book", "case", "prices", "rule"] ["book", "case"] (defScope s_price_there) := ⟨rfl, rfl, rfl, by decide +kernel, rfl, by decide +kernel, by decide +kernel⟩
theorem bd_price_there : Bnd d_price_there ["book", "case"] := fun _ _ _ _ _ _ us hl => match us, hl with | [_, _], _ => rfl
theorem sc_letter_at : FnScope ["word", "place"] ["word", "place"] (defScope s_letter_at) := ⟨rfl, rfl, rfl, by decide +kernel, rfl, by decide +kernel, by decide +kernel⟩
theorem bd_letter_at : Bnd d_letter_at ["word", "place"] := fun _ _ _ _ _ _ us hl => match us, hl with | [_, _], _ => rfl
theorem sc_need_ring : FnScope ["thing"] ["thing"] (defScope s_need_ring) := ⟨rfl, rfl, rfl, by decide +kernel, rfl, by decide +kernel, by decide +kernel⟩
theorem bd_need_ring : Bnd d_need_ring ["thing"] := fun _ _ _ _ _ _ us hl => match us, hl with | [_], _ => rfl
def spIsLetter : Sp := fun vs H Q _ => ∃ c : Nat, vs = [.str (sg c)] ∧ Q (.bl (decide (isLet c))) H
def spIsWhole : Sp := fun vs H Q _ => ∃ i lo hi : Int, vs = [.int i, .int lo, .int hi] ∧ Q (.bl (decide (lo ≤ i ∧ i ≤ hi))) H
def spNeedWord : Sp := fun vs H Q _ => ∃ z : Str, vs = [.str z] ∧ GoodW z ∧ ∀ H', Same H H' → Q .non H'
theorem lt_sg : ("<" : Str) = sg 60 := by decide +kernel
theorem gt_sg : (">" : Str) = sg 62 := by decide +kernel
theorem st_sg : ("*" : Str) = sg 42 := by decide +kernel
def spIsSide : Sp := fun vs H Q _ => ∃ (c e : Nat) (x : Str), vs = [.str (sg c), .str x] ∧ x = sg e ∧ ∀ H', Same H H' → Q (.bl (decide (isLet c ∨ c = e ∨ c = 42))) H'
section
variable {W : Wd} (Z : Hd W)
include Z
theorem ok_is_letter : Cal W 1 "is_letter" ["thing"] spIsLetter := by
  refine cal_mk (d := d_is_letter) Z.g_is_letter Z.d_is_letter sc_is_letter bd_is_letter (fun vs H Q E h => ?_) fun f cdv A outer s H vs Q E hr h => ?_
  · obtain ⟨c, rfl, _⟩ := h; rfl
  obtain ⟨c, rfl, q⟩ := h
  obtain ⟨_, k_LETTERS⟩ := Z.k_LETTERS
  refine ⟨_, pss_one (ps_ret (pe_and (pe_callB (k_is W.K) (by rfl) Z.m_isinstance (by decide +kernel) (pa_cons (pv 0) (pa_cons (pe_bltn (v := .ty "str") (by rfl) Z.m_str (by decide +kernel) rfl) pa_nil))) (pe_and (pe_cmpR op_eq (pe_callB call_len_str (by rfl) Z.m_len (by decide +kernel) (pa_cons (pv 0) pa_nil)) pe_int (nomark _)) (pe_one (pe_cmpR op_in_sign (pv 0) (pe_gS k_LETTERS) (by rfl)))))), ?_⟩
  refine ⟨_, rfl, _, "str", "str", true, rfl, .base (.str _), by decide +kernel, _, rfl, ?_⟩
  refine iteT ⟨_, rfl, _, rfl, by show 1 ≤ sizeLine; decide, rfl, _, rfl, ?_⟩
  refine iteT ⟨_, rfl, c, _, rfl, rfl, ?_⟩
  rw [dec_letters]
  exact q
theorem fn_is_whole : ∃ f fd, W.mg "is_whole" = some (.ref f) ∧ PySem.W.keepIn W.K (.ref f) = true ∧ FnOk W.P W.w W.K W.mg W.base CX0 1 f fd ["thing", "least", "most"] spIsWhole ∧
    FunD W.K "is_whole" "is_whole" d_is_whole.params d_is_whole.body d_is_whole.scope [] [("least", .int 0), ("most", .int 120)] f fd := by
  obtain ⟨fd, F⟩ := Z.d_is_whole
  refine ⟨_, fd, Z.g_is_whole, F.kp, fnk F sc_is_whole (fun vs H Q E h => ?_) (fun f cdv A outer s H vs Q E hr h => ?_), F⟩
  · obtain ⟨i, lo, hi, rfl, _⟩ := h; rfl
  obtain ⟨i, lo, hi, rfl, q⟩ := h
  refine ⟨_, pss_one (ps_ret (pe_and (pe_callB (k_is W.K) (by rfl) Z.m_isinstance (by decide +kernel) (pa_cons (pv 0) (pa_cons (pe_bltn (v := .ty "int") (by rfl) Z.m_int (by decide +kernel) rfl) pa_nil))) (pe_and (pe_not (pe_callB (k_is W.K) (by rfl) Z.m_isinstance (by decide +kernel) (pa_cons (pv 0) (pa_cons (pe_bltn (v := .ty "bool") (by rfl) Z.m_bool (by decide +kernel) rfl) pa_nil)))) (pe_one (pe_chain op_le op_le (pv 1) (pv 0) (pv 2)))))), ?_⟩
  refine ⟨_, rfl, _, "int", "int", true, rfl, .base (.int _), by decide +kernel, _, rfl, ?_⟩
  refine iteT ⟨_, rfl, _, "bool", "int", false, rfl, .base (.int _), by decide +kernel, _, rfl, _, rfl, ?_⟩
  refine iteT ⟨_, rfl, _, rfl, _, _, rfl, rfl, _, rfl, ?_⟩
  by_cases h1 : lo ≤ i
  · rw [decide_eq_true h1]
    refine iteT ⟨_, rfl, _, _, rfl, rfl, ?_⟩
    have e : decide (i ≤ hi) = decide (lo ≤ i ∧ i ≤ hi) := by simp [h1]
    show Q (.bl (decide (i ≤ hi))) H
    rw [e]
    exact q
  · rw [decide_eq_false h1]
    refine iteF ?_
    have e : false = decide (lo ≤ i ∧ i ≤ hi) := by simp [h1]
    show Q (.bl false) H
    rw [e]
    exact q
omit Z in
theorem kb_most {f : Addr} {fd : FuncData} (F : FunD W.K "is_whole" "is_whole" d_is_whole.params d_is_whole.body d_is_whole.scope [] [("least", .int 0), ("most", .int 120)] f fd) :
    ∃ mv : List Value, KBn W.K fd ["thing", "least", "most"] 1 ["most"] (fun us ws => us ++ (mv ++ ws)) (fun vs zs => vs ++ ([V.int 0] ++ zs)) :=
  FunD.kbinds0 F 1 ["most"] [("least", .int 0)] (fun us mv ws => us ++ (mv ++ ws)) (by decide) (by simp) (fun a b c => a.append (b.append c)) fun D doc pm an cdv ct us mv ws h1 h2 h3 =>
    match us, mv, ws, h1, h2, h3 with | [u], [m], [w], _, _, _ => ⟨_, _, _, _, _, _, rfl, rfl, rfl⟩
omit Z in
theorem kb_both {f : Addr} {fd : FuncData} (F : FunD W.K "is_whole" "is_whole" d_is_whole.params d_is_whole.body d_is_whole.scope [] [("least", .int 0), ("most", .int 120)] f fd) :
    ∃ mv : List Value, KBn W.K fd ["thing", "least", "most"] 1 ["least", "most"] (fun us ws => us ++ (mv ++ ws)) (fun vs zs => vs ++ ([] ++ zs)) :=
  FunD.kbinds0 F 1 ["least", "most"] [] (fun us mv ws => us ++ (mv ++ ws)) (by decide) (by simp) (fun a b c => a.append (b.append c)) fun D doc pm an cdv ct us mv ws h1 h2 h3 =>
    match us, mv, ws, h1, h2, h3 with | [u], [], [w, w2], _, _, _ => rfl
omit Z in
theorem bi_none {f : Addr} {fd : FuncData} (F : FunD W.K "is_whole" "is_whole" d_is_whole.params d_is_whole.body d_is_whole.scope [] [("least", .int 0), ("most", .int 120)] f fd) :
    ∃ ds, Vals [V.int 0, V.int 120] ds ∧ Binds W.K fd ["thing", "least", "most"] ds :=
  FunD.binds0 F 1 (by decide) rfl fun D doc pm an cdv ct us ks h1 h2 =>
    match us, ks, h1, h2 with | [u], [a, b], _, _ => ⟨_, _, _, _, _, _, rfl, rfl, _, _, _, _, _, _, rfl, rfl, rfl⟩
end
section
variable {X : Cx} {W : Wd} (Z : Hd W) {e e2 e3 : Expr} {te t2 t3 : TE} {p pos k1 k2 : Pos}
include Z
theorem pe_iw (hr : Room 1 X.A) (ha : PE X e te) (hg : Gl X "is_whole" := by rfl) (he : starEach (e :: []) X.env = (false, eval e X.env) :: starEach [] X.env := by rfl) (hW : Wof X = W := by rfl) :
    PE X (.Call (.Name "is_whole" p) [e] [] pos) (tCall spIsWhole [.int 0, .int 120] E0 (tCons te tNil)) := by
  subst hW
  obtain ⟨f, fd, a, b, F, D⟩ := fn_is_whole Z
  obtain ⟨ds, hd, hb⟩ := bi_none D
  exact pe_call F hr hg a b hb hd pass0 (pa_cons ha pa_nil he) (by decide) he rfl
theorem pe_iwm (hr : Room 1 X.A) (ha : PE X e te) (hb : PE X e2 t2) (hg : Gl X "is_whole" := by rfl) (he : starEach (e :: []) X.env = (false, eval e X.env) :: starEach [] X.env := by rfl) (hW : Wof X = W := by rfl) :
    PE X (.Call (.Name "is_whole" p) [e] [⟨some "most", e2, k1⟩] pos) (tCallN 1 1 spIsWhole (fun vs zs => vs ++ ([V.int 0] ++ zs)) E0 (tCons te tNil) (tCons t2 tNil)) := by
  subst hW
  obtain ⟨f, fd, a, b, F, D⟩ := fn_is_whole Z
  obtain ⟨mv, hk⟩ := kb_most D
  exact pe_callN F hr hg a b hk pass0 (pa_cons ha pa_nil he) (pk_cons hb pk_nil) rfl rfl (by decide) he (by rw [he]; rfl)
theorem pe_iwb (hr : Room 1 X.A) (ha : PE X e te) (hb : PE X e2 t2) (hc : PE X e3 t3) (hg : Gl X "is_whole" := by rfl) (he : starEach (e :: []) X.env = (false, eval e X.env) :: starEach [] X.env := by rfl) (hW : Wof X = W := by rfl) :
    PE X (.Call (.Name "is_whole" p) [e] [⟨some "least", e2, k1⟩, ⟨some "most", e3, k2⟩] pos) (tCallN 1 2 spIsWhole (fun vs zs => vs ++ ([] ++ zs)) E0 (tCons te tNil) (tCons t2 (tCons t3 tNil))) := by
  subst hW
  obtain ⟨f, fd, a, b, F, D⟩ := fn_is_whole Z
  obtain ⟨mv, hk⟩ := kb_both D
  exact pe_callN F hr hg a b hk pass0 (pa_cons ha pa_nil he) (pk_cons hb (pk_cons hc pk_nil)) rfl rfl (by decide) he (by rw [he]; rfl)
end
theorem sg_inj {c e : Nat} : (sg c = sg e) ↔ c = e := by simp [sg]
theorem in2 (c e : Nat) : inV (.str (sg c)) [.str (sg e), .str "*"] = decide (c = e ∨ c = 42) := by
  have h : ("*" : Str) = sg 42 := by decide +kernel
  rw [h, Bool.eq_iff_iff]
  simp only [inV, eqV, List.any_cons, List.any_nil, Bool.or_false, Bool.or_eq_true, beq_iff_eq, sg_inj, decide_eq_true_eq]
  constructor
  · rintro (h | h)
    · exact .inl h.symm
    · exact .inr h.symm
  · rintro (h | h)
    · exact .inl h.symm
    · exact .inr h.symm
theorem rd (p : Prop) [Decidable p] (h : p) : decide p = true := decide_eq_true h
/-- the look at a rule: all four well -/
def spRuleLooks (K : PySem.W.Frag) : Sp := fun vs H Q _ => ∃ q r, vs = [.ref q] ∧ SqT K H q (ruleV r) ∧ GoodR r ∧ ∀ p H', Same H H' → H' p = some (.lst [.bl true, .bl true, .bl true, .bl true]) → Q (.ref p) H'
def spNeedBook (K : PySem.W.Frag) : Sp := fun vs H Q _ => ∃ p xs rs, vs = [.ref p] ∧ BookAt K H p xs rs ∧ GoodB rs ∧ ∀ H', Same H H' → Q .non H'
def spFitsCase (K : PySem.W.Frag) : Sp := fun vs H Q _ => ∃ q c r A X B, vs = [.ref q, .ref c] ∧ SqT K H q (ruleV r) ∧ SqT K H c [.str (sg A), .str (sg X), .str (sg B)] ∧ ∀ H', Same H H' → Q (.bl (fits r A X B)) H'
/-- the least price of all that fit -/
def prices (rs : List Rule) (A X B : Nat) : List Int := (rs.filter fun r => fits r A X B).map Rule.p
def IsMin (ns : List Int) (o : Option Int) : Prop := match o with
  | none => ns = []
  | some m => m ∈ ns ∧ ∀ y ∈ ns, m ≤ y
def optV : Option Int → V
  | none => .non
  | some m => .int m
def spPriceThere (K : PySem.W.Frag) : Sp := fun vs H Q _ => ∃ p xs rs c A X B, vs = [.ref p, .ref c] ∧ BookAt K H p xs rs ∧ GoodB rs ∧ SqT K H c [.str (sg A), .str (sg X), .str (sg B)] ∧ ∀ o H', Same H H' → IsMin (prices rs A X B) o → Q (optV o) H'
/-- the sign at a place of a word, the ends too -/
def signAt (z : Str) (i : Int) : Nat := if i < 0 then 60 else (z.cps.toList[i.toNat]?).getD 62
def spLetterAt : Sp := fun vs H Q _ => ∃ (z : Str) (i : Int), vs = [.str z, .int i] ∧ GoodW z ∧ Q (.str (sg (signAt z i))) H
def spNeedRing : Sp := fun vs H Q _ => ∃ b : Bool, vs = [.bl b] ∧ Q .non H
section
variable {W : Wd} (Z : Hd W)
include Z
theorem ok_need_word : Cal W 1 "need_word" ["thing"] spNeedWord := by
  refine cal_mk (d := d_need_word) Z.g_need_word Z.d_need_word sc_need_word bd_need_word (fun vs H Q E h => ?_) fun f cdv A outer s H vs Q E hr h => ?_
  · obtain ⟨c, rfl, _⟩ := h; rfl
  obtain ⟨z, rfl, hz, q⟩ := h
  obtain ⟨_, k_LETTERS⟩ := Z.k_LETTERS
  obtain ⟨_, k_MOST_WORD⟩ := Z.k_MOST_WORD
  refine ⟨_, pss_cons (ps_if (PW.pt (pw_or (pt_not (pt_val (pe_callB (k_is W.K) (by rfl) Z.m_isinstance (by decide +kernel) (pa_cons (pv 0) (pa_cons (pe_bltn (v := .ty "str") (by rfl) Z.m_str (by decide +kernel) rfl) pa_nil))))) (pw_or1 (pt_cmpR op_gt (pe_callB call_len_str (by rfl) Z.m_len (by decide +kernel) (pa_cons (pv 0) pa_nil)) (pe_gI k_MOST_WORD) (nomark _))))) (pss_one (ps_never)) pss_nil)
      (pss_one (ps_for PassesOwn.never rfl (pi_enumS (by rfl) Z.m_enumerate (pa_cons (pv 0) pa_nil)) (pg_tup rfl (pgs_cons (pg_name (i := 1) sc_need_word.nd rfl (Or.inl rfl)) (pgs_cons (pg_name (i := 2) sc_need_word.nd rfl (Or.inl rfl)) pgs_nil))) (pss_one (ps_if (pt_cmpR op_notIn_sign (pv 2) (pe_gS k_LETTERS) (by rfl)) (pss_one (ps_never)) pss_nil)))), ?_⟩
  refine ⟨_, rfl, _, "str", "str", true, rfl, .base (.str _), by decide +kernel, _, rfl, ?_⟩
  refine iteF ⟨_, rfl, _, rfl, sz_of (Nat.le_trans hz.len (by decide)), _, _, rfl, rfl, _, rfl, ?_⟩
  have e : decide ((120 : Int) < (z.length : Int)) = false := decide_eq_false (by have := hz.len; show ¬ (120 : Int) < (z.cps.size : Int); omega)
  rw [e]
  refine iteF ?_
  refine ⟨_, rfl, z, rfl, for_enumS (fun i σ H' => (∃ a b, σ = [some (.str z), a, b]) ∧ Same H H') ⟨⟨_, _, rfl⟩, Same.refl H⟩ (fun i c σ H' T hc p hT => ?_) (fun σ H' p => q H' p.2)⟩
  obtain ⟨⟨a, b, rfl⟩, p⟩ := p
  refine ⟨T, _, rfl, SqT.of upd_same, rfl, _, _, rfl, _, _, rfl, rfl, _, rfl, c, _, rfl, rfl, _, rfl, ?_⟩
  have hl : isLet c := hz.let_ c (List.mem_of_getElem? (by rw [Array.getElem?_toList]; exact hc))
  rw [dec_letters, decide_eq_true hl]
  exact iteF ⟨⟨_, _, rfl⟩, p.trans (same_new hT _)⟩
theorem ok_is_side : Cal W 2 "is_side" ["thing", "end"] spIsSide := by
  refine cal_mk (d := d_is_side) Z.g_is_side Z.d_is_side sc_is_side bd_is_side (fun vs H Q E h => ?_) fun f cdv A outer s H vs Q E hr h => ?_
  · obtain ⟨c, e, x, rfl, _⟩ := h; rfl
  obtain ⟨c, e, x, rfl, rfl, q⟩ := h
  obtain ⟨_, k_ANY_SIGN⟩ := Z.k_ANY_SIGN
  refine ⟨_, pss_one (ps_ret (pe_or (pe_cal (ok_is_letter Z) (hr.mono (by decide)) (pa_cons (pv 0) pa_nil)) (pe_one (pe_and (pe_callB (k_is W.K) (by rfl) Z.m_isinstance (by decide +kernel) (pa_cons (pv 0) (pa_cons (pe_bltn (v := .ty "str") (by rfl) Z.m_str (by decide +kernel) rfl) pa_nil))) (pe_one (pe_cmpR (k_op_in_seq W.K) (pv 0) (pe_tup (pa_cons (pv 1) (pa_cons (pe_gS k_ANY_SIGN) pa_nil))) (by rfl))))))), ?_⟩
  refine ⟨_, rfl, c, rfl, _, rfl, ?_⟩
  by_cases hl : isLet c
  · rw [decide_eq_true hl]
    refine iteT ?_
    have e1 : true = decide (isLet c ∨ c = e ∨ c = 42) := by simp [hl]
    show Q (.bl true) H
    rw [e1]
    exact q H (Same.refl H)
  · rw [decide_eq_false hl]
    refine iteF ⟨_, rfl, _, "str", "str", true, rfl, .base (.str _), by decide +kernel, _, rfl, ?_⟩
    refine iteT ⟨_, rfl, _, rfl, by show 2 ≤ sizeLine; decide, fun p hp => ?_⟩
    refine ⟨p, _, rfl, .inr (SqT.of upd_same), rfl, rfl, ?_⟩
    have e1 : inV (.str (sg c)) [.str (sg e), .str "*"] = decide (isLet c ∨ c = e ∨ c = 42) := by
      rw [in2]
      simp [hl]
    show Q (.bl (inV (.str (sg c)) [.str (sg e), .str "*"])) _
    rw [e1]
    exact q _ (same_new hp _)
theorem ok_rule_looks : Cal W 3 "rule_looks" ["thing"] (spRuleLooks W.K) := by
  refine cal_mk (d := d_rule_looks) Z.g_rule_looks Z.d_rule_looks sc_rule_looks bd_rule_looks (fun vs H Q E h => ?_) fun f cdv A outer s H vs Q E hr h => ?_
  · obtain ⟨c, e, rfl, _⟩ := h; rfl
  obtain ⟨c, r, rfl, hq, hg, q⟩ := h
  obtain ⟨_, k_FIRST_END⟩ := Z.k_FIRST_END
  obtain ⟨_, k_LAST_END⟩ := Z.k_LAST_END
  obtain ⟨_, k_MOST_PRICE⟩ := Z.k_MOST_PRICE
  refine ⟨_, pss_cons (ps_set (i := 1) sc_rule_looks.nd rfl (Or.inl rfl) (pe_lst (pa_cons (pe_cal (ok_is_side Z) (hr.mono (by decide)) (pa_cons (pe_ix (k_ix_tup W.K) (pv 0) pe_int (fun _ _ => rfl)) (pa_cons (pe_gS k_FIRST_END) pa_nil))) (pa_cons (pe_cal (ok_is_letter Z) (hr.mono (by decide)) (pa_cons (pe_ix (k_ix_tup W.K) (pv 0) pe_int (fun _ _ => rfl)) pa_nil)) (pa_cons (pe_cal (ok_is_side Z) (hr.mono (by decide)) (pa_cons (pe_ix (k_ix_tup W.K) (pv 0) pe_int (fun _ _ => rfl)) (pa_cons (pe_gS k_LAST_END) pa_nil))) pa_nil)))))
      (pss_one (ps_ret (pe_op op_cat (pv 1) (pe_lst (pa_cons (pe_iwm Z (hr.mono (by decide)) (pe_ix (k_ix_tup W.K) (pv 0) pe_int (fun _ _ => rfl)) (pe_gI k_MOST_PRICE)) pa_nil))))), ?_⟩
  refine ⟨_, rfl, c, _, _, _, rfl, rfl, hq, rfl, _, 60, _, rfl, lt_sg, fun H1 g1 => ?_⟩
  refine ⟨_, rfl, c, _, _, _, rfl, rfl, g1.tS hq, rfl, _, rfl, ?_⟩
  refine ⟨_, rfl, c, _, _, _, rfl, rfl, g1.tS hq, rfl, _, 62, _, rfl, gt_sg, fun H2 g2 => ?_⟩
  have e1 : decide (isLet r.a ∨ r.a = 60 ∨ r.a = 42) = true := decide_eq_true hg.a
  have e2 : decide (isLet r.b ∨ r.b = 62 ∨ r.b = 42) = true := decide_eq_true hg.b
  have e3 : decide (isLet r.x) = true := decide_eq_true hg.x
  rw [e1, e2, e3]
  refine ⟨by show 3 ≤ sizeLine; decide, fun p hp => ?_⟩
  have g3 : Same H2 (upd H2 p (.lst [.bl true, .bl true, .bl true])) := same_new hp _
  refine ⟨_, rfl, _, rfl, c, _, _, _, rfl, rfl, g3.tS (g2.tS (g1.tS hq)), rfl, rfl, rfl, r.p, 0, 999, rfl, ?_⟩
  rw [decide_eq_true (⟨hg.p0, hg.p1⟩ : (0 : Int) ≤ r.p ∧ r.p ≤ 999)]
  refine ⟨by show 1 ≤ sizeLine; decide, fun p2 hp2 => ?_⟩
  refine ⟨p, p2, _, _, rfl, rfl, same_new hp2 _ _ _ upd_same, upd_same, by show 4 ≤ sizeLine; decide, fun p3 hp3 => ?_⟩
  exact q p3 _ (((g1.trans g2).trans g3).trans ((same_new hp2 _).trans (same_new hp3 _))) upd_same
theorem ok_letter_at : Cal W 1 "letter_at" ["word", "place"] spLetterAt := by
  refine cal_mk (d := d_letter_at) Z.g_letter_at Z.d_letter_at sc_letter_at bd_letter_at (fun vs H Q E h => ?_) fun f cdv A outer s H vs Q E hr h => ?_
  · obtain ⟨c, e, rfl, _⟩ := h; rfl
  obtain ⟨z, i, rfl, hz, q⟩ := h
  obtain ⟨_, k_FIRST_END⟩ := Z.k_FIRST_END
  obtain ⟨_, k_LAST_END⟩ := Z.k_LAST_END
  refine ⟨_, pss_cons (ps_if (pt_cmpR op_lt (pv 1) pe_int (nomark _)) (pss_one (ps_ret (pe_gS k_FIRST_END))) pss_nil)
      (pss_one (ps_ret (pe_ifExp (pt_cmpR op_lt (pv 1) (pe_callB call_len_str (by rfl) Z.m_len (by decide +kernel) (pa_cons (pv 0) pa_nil)) (nomark _)) (pe_ix ix_str (pv 0) (pv 1) (fun _ _ => rfl)) (pe_gS k_LAST_END)))), ?_⟩
  refine ⟨_, rfl, _, _, rfl, rfl, _, rfl, ite2 (fun c => ?_) (fun c => ?_)⟩
  · have h0 : i < 0 := of_decide_eq_true c
    show Q (.str "<") H
    have e : sg (signAt z i) = "<" := by unfold signAt; rw [if_pos h0]; decide +kernel
    rw [← e]
    exact q
  · have h0 : ¬ i < 0 := of_decide_eq_false (Bool.eq_false_iff.mpr c)
    have hl := hz.len
    refine ⟨_, rfl, _, rfl, z, rfl, sz_of (Nat.le_trans hz.len (by decide)), _, _, rfl, rfl, _, rfl, ite2 (fun c => ?_) (fun c => ?_)⟩
    · have h1 : i < (z.cps.size : Int) := of_decide_eq_true c
      have h2 : i.toNat < z.cps.toList.length := by rw [Array.length_toList]; omega
      have e : atI z.cps.toList i = some z.cps.toList[i.toNat] := by
        have := atI_nat (xs := z.cps.toList) (j := i.toNat) (v := z.cps.toList[i.toNat]) (by simp [h2])
        rwa [show ((i.toNat : Nat) : Int) = i by omega] at this
      refine ⟨_, rfl, _, rfl, z, i, _, rfl, rfl, sz_of (Nat.le_trans hz.len (by decide)), e, ?_⟩
      have e2 : sg (signAt z i) = ⟨#[z.cps.toList[i.toNat]]⟩ := by unfold signAt; rw [if_neg h0, List.getElem?_eq_getElem h2]; rfl
      show Q (.str ⟨#[z.cps.toList[i.toNat]]⟩) H
      rw [← e2]
      exact q
    · have h1 : ¬ i < (z.cps.size : Int) := of_decide_eq_false (Bool.eq_false_iff.mpr c)
      have e2 : sg (signAt z i) = ">" := by
        unfold signAt
        rw [if_neg h0, List.getElem?_eq_none (by rw [Array.length_toList]; omega)]
        decide +kernel
      show Q (.str ">") H
      rw [← e2]
      exact q
theorem ok_need_ring : Cal W 1 "need_ring" ["thing"] spNeedRing := by
  refine cal_mk (d := d_need_ring) Z.g_need_ring Z.d_need_ring sc_need_ring bd_need_ring (fun vs H Q E h => ?_) fun f cdv A outer s H vs Q E hr h => ?_
  · obtain ⟨c, rfl, _⟩ := h; rfl
  obtain ⟨b, rfl, q⟩ := h
  refine ⟨_, pss_one (ps_if (pt_not (pt_val (pe_callB (k_is W.K) (by rfl) Z.m_isinstance (by decide +kernel) (pa_cons (pv 0) (pa_cons (pe_bltn (v := .ty "bool") (by rfl) Z.m_bool (by decide +kernel) rfl) pa_nil))))) (pss_one (ps_never)) pss_nil), ?_⟩
  exact ⟨_, rfl, _, "bool", "bool", true, rfl, .base (.bl _), by decide +kernel, _, rfl, iteF q⟩
end
end Sl
/-! SlW2 -/
namespace Sl
open PySem PySem.Spec PyProof.Rows L2
theorem dec_sg {a b : Nat} : decide (V.str (sg a) = V.str (sg b)) = decide (a = b) := by
  rw [Bool.eq_iff_iff]
  simp [sg]
theorem isMin_ex : ∀ ns : List Int, ns ≠ [] → ∃ m, m ∈ ns ∧ ∀ y ∈ ns, m ≤ y
  | [], h => absurd rfl h
  | [n], _ => ⟨n, List.mem_cons_self, fun y hy => by simp at hy; omega⟩
  | n :: k :: ns, _ => by
    obtain ⟨m, h1, h2⟩ := isMin_ex (k :: ns) (by simp)
    by_cases h : n ≤ m
    · exact ⟨n, List.mem_cons_self, fun y hy => by
        rcases List.mem_cons.mp hy with e | e
        · omega
        · have := h2 y e; omega⟩
    · exact ⟨m, List.mem_cons_of_mem _ h1, fun y hy => by
        rcases List.mem_cons.mp hy with e | e
        · omega
        · exact h2 y e⟩
theorem isMin_uniq {ns : List Int} {o o' : Option Int} (h : IsMin ns o) (h' : IsMin ns o') : o = o' := by
  cases o with
  | none =>
    cases o' with
    | none => rfl
    | some m => have e : ns = [] := h; have := h'.1; rw [e] at this; cases this
  | some m =>
    cases o' with
    | none => have e : ns = [] := h'; have := h.1; rw [e] at this; cases this
    | some m' =>
      have h1 := h.2 m' h'.1
      have h2 := h'.2 m h.1
      congr 1
      omega
/-- one more item of a filtered list -/
theorem take_snoc {α : Type} {xs : List α} {i : Nat} {x : α} (h : xs[i]? = some x) : xs.take (i + 1) = xs.take i ++ [x] := by
  obtain ⟨h1, h2⟩ := List.getElem?_eq_some_iff.mp h
  rw [List.take_succ_eq_append_getElem h1, h2]
theorem tyT {K : PySem.W.Frag} {H : Hp} {a : Addr} {xs : List V} (h : SqT K H a xs) : TyX K H (.ref a) (.type "tuple") := by
  rcases h with (h | ⟨o, h⟩) | ⟨o, its, n, h, hc, _⟩
  · exact .base (.tup h)
  · exact .fTuple h
  · exact .kTuple h hc
section
variable {W : Wd} (Z : Hd W)
include Z
theorem ok_fits_case : Cal W 1 "fits_case" ["rule", "case"] (spFitsCase W.K) := by
  refine cal_mk (d := d_fits_case) Z.g_fits_case Z.d_fits_case sc_fits_case bd_fits_case (fun vs H Q E h => ?_) fun f cdv A outer s H vs Q E hr h => ?_
  · obtain ⟨c, e, _, _, _, _, rfl, _⟩ := h; rfl
  obtain ⟨q, c, r, A, X, B, rfl, hq, hc, k⟩ := h
  obtain ⟨_, k_ANY_SIGN⟩ := Z.k_ANY_SIGN
  refine ⟨_, pss_one (ps_ret (pe_and (pe_cmpR op_eq (pe_ix (k_ix_tup W.K) (pv 0) pe_int (fun _ _ => rfl)) (pe_ix (k_ix_tup W.K) (pv 1) pe_int (fun _ _ => rfl)) (nomark _)) (pe_and (pe_cmpR (k_op_in_seq W.K) (pe_ix (k_ix_tup W.K) (pv 0) pe_int (fun _ _ => rfl)) (pe_tup (pa_cons (pe_ix (k_ix_tup W.K) (pv 1) pe_int (fun _ _ => rfl)) (pa_cons (pe_gS k_ANY_SIGN) pa_nil))) (by rfl)) (pe_one (pe_cmpR (k_op_in_seq W.K) (pe_ix (k_ix_tup W.K) (pv 0) pe_int (fun _ _ => rfl)) (pe_tup (pa_cons (pe_ix (k_ix_tup W.K) (pv 1) pe_int (fun _ _ => rfl)) (pa_cons (pe_gS k_ANY_SIGN) pa_nil))) (by rfl)))))), ?_⟩
  refine ⟨_, rfl, q, _, _, _, rfl, rfl, hq, rfl, _, rfl, c, _, _, _, rfl, rfl, hc, rfl, rfl, _, rfl, ?_⟩
  rw [dec_sg]
  by_cases h1 : r.x = X
  · rw [decide_eq_true h1]
    refine iteT ⟨_, rfl, q, _, _, _, rfl, rfl, hq, rfl, _, rfl, c, _, _, _, rfl, rfl, hc, rfl, by show 2 ≤ sizeLine; decide, fun p hp => ?_⟩
    refine ⟨p, _, rfl, .inr (SqT.of upd_same), rfl, rfl, _, rfl, ?_⟩
    have g1 : Same H (upd H p (.tup [.str (sg A), .str "*"])) := same_new hp _
    show if (inV (.str (sg r.a)) [.str (sg A), .str "*"]) = true then _ else _
    rw [in2]
    by_cases h2 : r.a = A ∨ r.a = 42
    · rw [decide_eq_true h2]
      refine iteT ⟨_, rfl, q, _, _, _, rfl, rfl, g1.tS hq, rfl, _, rfl, c, _, _, _, rfl, rfl, g1.tS hc, rfl, by show 2 ≤ sizeLine; decide, fun p2 hp2 => ?_⟩
      refine ⟨p2, _, rfl, .inr (SqT.of upd_same), rfl, rfl, ?_⟩
      have e : inV (.str (sg r.b)) [.str (sg B), .str "*"] = fits r A X B := by
        rw [in2]
        simp [fits, h1, h2]
      show Q (.bl (inV (.str (sg r.b)) [.str (sg B), .str "*"])) _
      rw [e]
      exact k _ (g1.trans (same_new hp2 _))
    · rw [decide_eq_false h2]
      refine iteF ?_
      have e : false = fits r A X B := by simp [fits, h2]
      show Q (.bl false) _
      rw [e]
      exact k _ g1
  · rw [decide_eq_false h1]
    refine iteF ?_
    have e : false = fits r A X B := by simp [fits, h1]
    show Q (.bl false) H
    rw [e]
    exact k H (Same.refl H)
theorem ok_price_there : Cal W 2 "price_there" ["book", "case"] (spPriceThere W.K) := by
  refine cal_mk (d := d_price_there) Z.g_price_there Z.d_price_there sc_price_there bd_price_there (fun vs H Q E h => ?_) fun f cdv A outer s H vs Q E hr h => ?_
  · obtain ⟨c, e, _, _, _, _, _, rfl, _⟩ := h; rfl
  obtain ⟨p, xs, rs, c, A, X, B, rfl, hb, hg, hc, k⟩ := h
  refine ⟨_, pss_cons (ps_setLc (i := 2) (own := [("rule", 3)]) (g := gName 3) rfl sc_price_there.nd rfl rfl (sw_true rfl rfl rfl (by decide +kernel)) (k_tup W.K (pv 0)) (blkOk_by (own := [("rule", 3)]) (N := ["book", "case", "prices", "rule"]) (sc := defScope s_price_there) (by decide +kernel)) (fun _ _ _ _ _ => pg_name (i := 3) sc_price_there.nd rfl (Or.inl rfl)) (fun _ _ _ _ _ => pts_one (pt_val (pe_cal (ok_fits_case Z) (hr.mono (by decide)) (pa_cons (pv 3) (pa_cons (pv 1) pa_nil))))) (fun _ _ _ _ _ => (pe_ix (k_ix_tup W.K) (pv 3) pe_int (fun _ _ => rfl))))
      (pss_one (ps_ret (pe_ifExp (pt_cmpR (k_op_neD W.K hr.units) (pv 2) (pe_lst pa_nil) (nomark _)) (pe_callB (k_min W.K) (by rfl) Z.m_min (by decide +kernel) (pa_cons (pv 2) pa_nil)) pe_non))), ?_⟩
  refine ⟨_, rfl, p, rfl, ⟨xs, hb.sq⟩, fun D hD => ?_⟩
  have hlen : xs.length = rs.length := Paired.length hb.rs
  have h80 := hg.len
  refine lc_tup (xs := xs) (fun i H' => Same H H' ∧ H' D = some (.lst ((prices (rs.take i) A X B).map V.int))) ⟨same_new hD _, by rw [upd_same]; rfl⟩ (fun i H' _ q => q.1.tS hb.sq) (fun i x H' hx q => ?_) (fun H' q => ?_)
  · obtain ⟨g, hl⟩ := q
    obtain ⟨r, hr, rq, rfl, hrq⟩ := Paired.at hb.rs hx
    refine ⟨rfl, _, rfl, _, rfl, rq, c, r, A, X, B, rfl, g.tS hrq, g.tS hc, fun H2 g2 => ⟨_, rfl, ?_⟩⟩
    have e1 : prices (rs.take (i + 1)) A X B = if fits r A X B = true then prices (rs.take i) A X B ++ [r.p] else prices (rs.take i) A X B := by
      unfold prices
      rw [take_snoc hr, List.filter_append, List.map_append]
      cases hff : fits r A X B <;> simp [List.filter_cons, hff]
    cases hf : fits r A X B with
    | true =>
      refine iteT ⟨_, rfl, rq, _, _, _, rfl, rfl, g2.tS (g.tS hrq), rfl, _, g2 _ _ hl, sz_lt ?_, ?_, ?_⟩
      · rw [List.length_map]
        unfold prices
        rw [List.length_map]
        have := List.length_filter_le (fun r => fits r A X B) (rs.take i)
        have := List.length_take_le' i rs
        omega
      · exact (g.trans g2).mutS hD
      · rw [upd_same, e1, hf, if_pos rfl, List.map_append]
        rfl
    | false =>
      refine iteF ⟨g.trans g2, ?_⟩
      rw [e1, hf, if_neg Bool.false_ne_true]
      exact g2 _ _ hl
  · obtain ⟨g, hl⟩ := q
    rw [hlen, List.take_length] at hl
    refine ⟨_, rfl, by show 0 ≤ sizeLine; decide, fun l0 hl0 => ?_⟩
    have g2 : Same H' (upd H' l0 (.lst [])) := same_new hl0 _
    refine ⟨_, _, dp_lI (SqL.of (g2 _ _ hl)), dp_l0 upd_same, shaped_lI _, shaped_lI _, _, rfl, ?_⟩
    rw [eqv_lI]
    by_cases hn : prices rs A X B = []
    · rw [decide_eq_true hn]
      refine iteF ?_
      exact k none _ (g.trans g2) hn
    · rw [decide_eq_false hn]
      refine iteT ⟨_, rfl, D, _, rfl, SqL.of (g2 _ _ hl), List.length_pos_iff.mpr hn, fun m h1 h2 => ?_⟩
      exact k (some m) _ (g.trans g2) ⟨h1, h2⟩
theorem ok_need_book : Cal W 4 "need_book" ["thing"] (spNeedBook W.K) := by
  refine cal_mk (d := d_need_book) Z.g_need_book Z.d_need_book sc_need_book bd_need_book (fun vs H Q E h => ?_) fun f cdv A outer s H vs Q E hr h => ?_
  · obtain ⟨c, e, _, rfl, _⟩ := h; rfl
  obtain ⟨p, xs, rs, rfl, hb, hg, k⟩ := h
  obtain ⟨_, k_MOST_RULES⟩ := Z.k_MOST_RULES
  refine ⟨_, pss_cons (ps_if (PW.pt (pw_or (pt_not (pt_val (pe_callB (k_is W.K) (by rfl) Z.m_isinstance (by decide +kernel) (pa_cons (pv 0) (pa_cons (pe_bltn (v := .ty "tuple") (by rfl) Z.m_tuple (by decide +kernel) rfl) pa_nil))))) (pw_or1 (pt_cmpR op_gt (pe_callB (k_len_seq W.K) (by rfl) Z.m_len (by decide +kernel) (pa_cons (pv 0) pa_nil)) (pe_gI k_MOST_RULES) (nomark _))))) (pss_one (ps_never)) pss_nil)
      (pss_one (ps_for PassesOwn.never rfl (pi_enumT (by rfl) Z.m_enumerate (pa_cons (pv 0) pa_nil)) (pg_tup rfl (pgs_cons (pg_name (i := 1) sc_need_book.nd rfl (Or.inl rfl)) (pgs_cons (pg_name (i := 2) sc_need_book.nd rfl (Or.inl rfl)) pgs_nil))) (pss_one (ps_if (PW.pt (pw_or (pt_not (pt_val (pe_callB (k_is W.K) (by rfl) Z.m_isinstance (by decide +kernel) (pa_cons (pv 2) (pa_cons (pe_bltn (v := .ty "tuple") (by rfl) Z.m_tuple (by decide +kernel) rfl) pa_nil))))) (pw_or (pt_cmpR op_ne (pe_callB (k_len_seq W.K) (by rfl) Z.m_len (by decide +kernel) (pa_cons (pv 2) pa_nil)) pe_int (nomark _)) (pw_or1 (pt_cmpR (k_op_in_seq W.K) pe_bl (pe_cal (ok_rule_looks Z) (hr.mono (by decide)) (pa_cons (pv 2) pa_nil)) (by rfl)))))) (pss_one (ps_never)) pss_nil)))), ?_⟩
  have hlen : xs.length = rs.length := Paired.length hb.rs
  have h80 := hg.len
  refine ⟨_, rfl, _, "tuple", "tuple", true, rfl, tyT hb.sq, by decide +kernel, _, rfl, ?_⟩
  refine iteF ⟨_, rfl, p, xs, rfl, .inr hb.sq, _, _, rfl, rfl, _, rfl, ?_⟩
  have e : decide ((80 : Int) < (xs.length : Int)) = false := decide_eq_false (by omega)
  rw [e]
  refine iteF ?_
  refine ⟨_, rfl, p, xs, rfl, hb.sq, for_enumT (fun i σ H' => (∃ a b, σ = [some (.ref p), a, b]) ∧ Same H H') ⟨⟨_, _, rfl⟩, Same.refl H⟩ (fun i σ H' _ q => q.2.tS hb.sq) (fun i x σ H' T hx q hT => ?_) (fun σ H' q => k H' q.2)⟩
  obtain ⟨⟨a, b, rfl⟩, g⟩ := q
  obtain ⟨r, hr, rq, rfl, hrq⟩ := Paired.at hb.rs hx
  have g1 : Same H (upd H' T (.tup [.int (i : Nat), .ref rq])) := g.trans (same_new hT _)
  refine ⟨T, _, rfl, SqT.of upd_same, rfl, _, _, rfl, _, _, rfl, rfl, ?_⟩
  refine ⟨_, rfl, _, "tuple", "tuple", true, rfl, tyT (g1.tS hrq), by decide +kernel, _, rfl, ?_⟩
  refine iteF ⟨_, rfl, rq, _, rfl, .inr (g1.tS hrq), rfl, _, rfl, ?_⟩
  refine iteF ⟨_, rfl, rq, r, rfl, g1.tS hrq, hg.good r (List.mem_of_getElem? hr), fun l H2 g2 hl => ?_⟩
  refine ⟨l, _, rfl, .inl (SqL.of hl), rfl, rfl, _, rfl, ?_⟩
  exact iteF ⟨⟨_, _, rfl⟩, g1.trans g2⟩
end
end Sl
/-! SlMisc2 -/
namespace Sl
open PySem PySem.Spec PyProof.Rows L2
/-! ### lists without doubles -/
theorem nodup_len {α : Type} [DecidableEq α] : ∀ {xs ys : List α}, xs.Nodup → (∀ x ∈ xs, x ∈ ys) → xs.length ≤ ys.length
  | [], _, _, _ => Nat.zero_le _
  | x :: xs, ys, hn, hs => by
    have h1 := List.nodup_cons.mp hn
    have h2 : xs.length ≤ (ys.erase x).length := nodup_len h1.2 fun z hz => (List.mem_erase_of_ne (fun (e : z = x) => h1.1 (by rw [← e]; exact hz))).mpr (hs z (List.mem_cons_of_mem _ hz))
    have h3 := List.length_erase_of_mem (hs x List.mem_cons_self)
    have h4 : 0 < ys.length := List.length_pos_of_mem (hs x List.mem_cons_self)
    rw [List.length_cons]
    omega
section
variable {X : Cx}
/-! ### len(set(t)) of a tuple of unlike ints -/
def tLenSetT (K : PySem.W.Frag) (ta : TE) : TE := fun σ H Q => ta σ H fun x H1 => ∃ (l : Addr) (ns : List Int), x = .ref l ∧ SqT K H1 l (ns.map V.int) ∧ ns.Nodup ∧ ns.length ≤ 4000 ∧ Q (.int (ns.length : Nat)) H1
theorem pe_lenSetT {a : Expr} {ta : TE} {p p2 q pos : Pos} (hg : Gl X "len") (hm : X.mg "len" = none) (hg2 : Gl X "set") (hm2 : X.mg "set" = none) (ha : PE X a ta) (hc : X.calm = true := by rfl)
    (na : starEach [a] X.env = (false, eval a X.env) :: starEach [] X.env := by rfl) : PE X (.Call (.Name "len" p) [.Call (.Name "set" p2) [a] [] q] [] pos) (tLenSetT X.K ta) := by
  refine ⟨fun pins s σ H Q I h => ?_⟩
  refine Call_ (ld_blt I hg hm PySem.boot_len ?_)
  refine PyProof.Rows.callWith_builtin1 (PyProof.Rows.args_cons ?_ rfl) rfl rfl
  refine Call_ (ld_blt I hg2 hm2 PyProof.Rows.boot_set ?_)
  refine PyProof.Rows.callWith_type1 (PyProof.Rows.args_cons (thn (ha.run pins s σ H _ I h) fun v s1 ⟨x, H1, I1, r1, q1⟩ => PyProof.Rows.args_nil ?_) na) na rfl
  obtain ⟨l, ns, rfl, hq, hnd, hl, q1⟩ := q1
  cases r1
  obtain ⟨its, r, pl, hz⟩ := I1.tuple hq
  refine call_set_tupI ns (I1.ok.hd hc) (show s1.heap.IsTuple l its.toArray from pl) (by simpa using r.ints) (by unfold scanBound; omega) fun h' tk c hS hcn hk => ?_
  refine PyProof.Rows.args_nil ?_
  obtain ⟨o, es, ep, t, ho, hex, hd, _, hnk, hmem, hbd, hf, hn, _⟩ := hS
  have hle : ns.length ≤ (es.toList.map keyOf).length := nodup_len hnd fun x hx => (hmem x).mp (decide_eq_true hx)
  have hsz : es.toList.length = es.size := Array.length_toList
  rw [List.length_map, hsz] at hle
  have hec : es.size = ns.length := by omega
  have I2 : Inv X pins σ H1 { s1 with heap := h', toks := tk } := I1.kept fun b o e => hk b o e
  exact PySem.call_len_set ho hex hd hf (by omega) ⟨.int ns.length, H1, I2.tok _, ⟨_, by rw [hec]⟩, q1⟩
theorem k_lenSetT (K : PySem.W.Frag) {a : Expr} {ta : TE} {p p2 q pos : Pos} (hg : Gl X "len") (hm : X.mg "len" = none) (hg2 : Gl X "set") (hm2 : X.mg "set" = none) (ha : PE X a ta) (hc : X.calm = true := by rfl)
    (na : starEach [a] X.env = (false, eval a X.env) :: starEach [] X.env := by rfl) (h : X.K = K := by rfl) : PE X (.Call (.Name "len" p) [.Call (.Name "set" p2) [a] [] q] [] pos) (tLenSetT K ta) := by
  subst h
  exact pe_lenSetT hg hm hg2 hm2 ha hc na
/-! ### t.index(n) of a tuple of ints -/
theorem flat_ints (ys : List Int) : (ys.map V.int).all flatV = true := by
  rw [List.all_map]
  exact List.all_eq_true.mpr fun _ _ => rfl
def rTIdx (K : PySem.W.Frag) : V → List V → Hp → VK → Prop := fun x xs H Q => ∃ p, ∃ ys : List Int, ∃ (z : Int) (j : Nat), x = .ref p ∧ xs = [.int z] ∧ SqT K H p (ys.map V.int) ∧ ys[j]? = some z ∧ (∀ m, m < j → ys[m]? ≠ some z) ∧ Q (.int (j : Nat)) H
theorem mt_tup_indexI : MtR X "tuple.index" (rTIdx X.K) := by
  intro pins s σ H x xs v us Q I rx rs h
  obtain ⟨p, ys, z, j, rfl, rfl, hq, hy, hno, q⟩ := h
  cases rx
  obtain ⟨u, rfl, t, rfl⟩ := vals1 rs
  obtain ⟨its, r, pl, hz⟩ := I.tuple hq
  obtain ⟨⟨cls, dd, dt, sl⟩, ho, hc, n, hd⟩ := pl
  simp only at hc hd
  subst hc
  subst hd
  have hl : its.toArray.size = ys.length := by rw [List.size_toArray, ← r.length, List.length_map]
  have hj : j < its.toArray.size := by rw [hl]; exact (List.getElem?_eq_some_iff.mp hy).1
  have at' : ∀ (m : Nat) (hm : m < its.toArray.size), ∃ y t', ys[m]? = some y ∧ its.toArray[m] = Value.int y t' := fun m hm => by
    have hm' : m < ys.length := by rw [← hl]; exact hm
    obtain ⟨w, hw, t', hw'⟩ := r.get (i := m) (x := .int ys[m]) (by simp [hm'])
    refine ⟨ys[m], t', List.getElem?_eq_getElem hm', ?_⟩
    have e := (List.getElem?_eq_some_iff.mp hw).2
    rw [← hw', ← e]
    simp
  refine call_meets PySem.F.slot_tuple_index ⟨_, ho, rfl⟩ PySem.F.entry_tuple_index (PySem.F.args_tuple_index_2 _ _) (TI.tuple_indexAt p its.toArray n dd sl (.int z t) (eqU (.int z)) j hj ?_ ?_)
    ⟨ho, fun w hw => mem_eqAt (x := .int z) ⟨t, rfl⟩ rfl r (flat_ints ys) w (by simpa using hw), ⟨.int (j : Nat), H, I.tok _, ⟨_, rfl⟩, q⟩⟩
  · obtain ⟨y, t', h1, h2⟩ := at' j hj
    rw [hy] at h1
    cases h1
    rw [h2]
    show (z == z) = true
    exact beq_self_eq_true z
  · intro m hm hmj
    obtain ⟨y, t', h1, h2⟩ := at' m hm
    rw [h2]
    show (y == z) = false
    exact beq_eq_false_iff_ne.mpr fun e => hno m hmj (e ▸ h1)
theorem k_tindexM (K : PySem.W.Frag) {o e : Expr} {to te : TE} {apos cpos : Pos} (ho : PE X o to) (ha : PE X e te)
    (hbase : attributeBase o "index" X.env (eval o X.env) = eval o X.env := by rfl)
    (hfew : ((backTo cpos (starEach (e :: []) X.env)).all (fun x => !x.1) && (backToKw cpos (keywordEach [] X.env)).all (fun x => x.1.isSome)
      && decide ((e :: []).length + ([] : List Keyword).length + (if ([] : List Keyword).isEmpty then 0 else 1) < 30)) = true := by rfl)
    (hline : (apos.endLine == cpos.line) = true := by rfl) (hs : starEach (e :: []) X.env = (false, eval e X.env) :: starEach [] X.env := by rfl) (h : X.K = K := by rfl) :
    PE X (.Call (.Attribute o "index" apos) [e] [] cpos) (tBM K "tuple" (rTIdx K) to (tCons te tNil)) := by
  subst h
  exact pe_bm PySem.F.plainAttrs_tuple PySem.F.slot_tuple_index PySem.F.type_tuple_index mt_tup_indexI ho (pa_cons ha pa_nil hs) hbase hfew hline hs rfl
/-! ### a call by keywords alone -/
def tCallK0 (m : Nat) (sp : Sp) (gV : List V → List V) (tk : TA) : TE := fun σ H Q => tk σ H fun zs H2 => zs.length = m ∧ sp (gV zs) H2 Q E0
theorem pe_callK0 {f : Addr} {fd : FuncData} {k : Nat} {x : Str} {ps ks : List Str} {sp : Sp} {p pos : Pos} {kws : List Keyword} {tk : TA} {g : List Value → List Value → List Value} {gV : List V → List V → List V}
    (F : FnOk X.prog X.w X.K X.mg X.base CX0 k f fd ps sp) (hr : Room k X.A) (hg : Gl X x) (hm : X.mg x = some (.ref f)) (hk : PySem.W.keepIn X.K (.ref f) = true) (hb : KBn X.K fd ps 0 ks g gV)
    (hkw : PK X kws tk) (hall : (backToKw pos (keywordEach kws X.env)).all (·.1.isSome) = true := by rfl) (hks : (backToKw pos (keywordEach kws X.env)).filterMap (·.1) = ks := by rfl)
    (hdb : (x == ("__debug__" : Str)) = false := by decide) (hpl : ((backTo pos (starEach [] X.env)).any (·.1) || (backToKw pos (keywordEach kws X.env)).any (·.1.isNone)) = false := by rfl) :
    PE X (.Call (.Name x p) [] kws pos) (tCallK0 ks.length sp (gV []) tk) := by
  refine ⟨fun pins s σ H Q I h => ?_⟩
  refine wpAny_Call_Name_kw (ld_glob I hg hm ?_ hdb)
  refine PySem.W.callWith_KW0 (h₀ := X.base) I.ok.mod.kin hk hall (thn (hkw.run pos pins s σ H _ I h) fun ws s2 ⟨zs, H2, I2, rz, l2, q2⟩ => ⟨I2.kIn, ?_⟩) hpl
  rw [hks]
  exact run_fnN F hr hb pass0 I2 .nil rz rfl l2 q2
/-! ### tuple(range(a, b, c)) -/
def rg3 (i c : Int) (n : Nat) : List Int := (List.range n).map fun (m : Nat) => i + (m : Int) * c
def rTup3 : List V → Hp → VK → Prop := fun vs H Q => ∃ (i j c : Int) (n : Nat), vs = [.int i, .int j, .int c] ∧ RgC i j c n ∧ n ≤ 1000 ∧ ∀ q, H q = none → Q (.ref q) (upd H q (.tup ((rg3 i c n).map V.int)))
theorem pe_tupRg3 {a b c : Expr} {ta : TA} {p p2 q pos : Pos} (hg : Gl X "tuple") (hm : X.mg "tuple" = none) (hg2 : Gl X "range") (hm2 : X.mg "range" = none) (ha : PA X [a, b, c] ta) (hc : X.calm = true := by rfl)
    (n1 : starEach [.Call (.Name "range" p2) [a, b, c] [] q] X.env = (false, eval (.Call (.Name "range" p2) [a, b, c] [] q) X.env) :: starEach [] X.env := by rfl)
    (n2 : starEach [a, b, c] X.env = (false, eval a X.env) :: starEach [b, c] X.env := by rfl) (hp : (backTo q (starEach [b, c] X.env)).any (·.1) = false := by rfl) :
    PE X (.Call (.Name "tuple" p) [.Call (.Name "range" p2) [a, b, c] [] q] [] pos) (tCB rTup3 ta) := by
  refine ⟨fun pins s σ H Q I h => ?_⟩
  refine Call_ (ld_blt I hg hm PyProof.Rows.boot_tuple (PyProof.Rows.callWith_type1 (PyProof.Rows.args_cons ?_ n1) n1))
  refine Call_ (ld_blt I hg2 hm2 PyProof.Rows.boot_range (PyProof.Rows.callWith_type1 (thn (ha.run q pins s σ H _ I h) fun us s1 ⟨vs, H1, I1, r1, q1⟩ => ?_) n2 hp))
  obtain ⟨i, j, k, n, e, ⟨c0, c1, c2, c3⟩, hn, q⟩ := q1
  subst e
  cases r1 with
  | cons r rr =>
    cases rr with
    | cons r' rr =>
      cases rr with
      | cons r'' rr =>
        cases rr
        obtain ⟨t, rfl⟩ := r
        obtain ⟨t', rfl⟩ := r'
        obtain ⟨t'', rfl⟩ := r''
        refine PySem.call_range_3 c0 ?_ (.inl (PyProof.noPylong_small c1))
        refine PyProof.Rows.args_nil ?_
        have I2 : Inv X pins σ H1 { s1 with heap := s1.heap.push { cls := .type "range", data := .fields #[.int i t, .int j t', .int k t''] } } := I1.kept (t' := s1.toks) fun b o e => Heap.get?_push_of_some _ e
        refine call_tuple_range (n := n) (I2.ok.hd hc) (IsRange.new _ _ _ _ _ _ _) c2 c3 (by omega) fun h' tk acc hk hi => ?_
        have I3 : Inv X pins σ H1 { s1 with heap := h', toks := tk } := I2.kept hk
        refine ⟨.ref h'.objs.size, upd H1 h'.objs.size (.tup ((rg3 i k n).map V.int)), I3.laid (t' := tk) (fun c o e => Heap.get?_push_of_some _ e) (Nat.le_refl _) (show ObjOk X.prog X.w _ _ _ (.tup ((rg3 i k n).map V.int)) from ⟨?_, acc.toList, ?_, ?_⟩), rfl, q _ (I3.hok.fresh (Nat.le_refl _))⟩
        · rw [List.length_map, rg3, List.length_map, List.length_range, sizeLine_eq]; omega
        · have e1 : acc.toList.length = n := by rw [Array.length_toList]; exact hi.1
          have z := vals_of_get acc.toList (fun m => V.int (i + (m : Int) * k)) fun j u hu => by
            have hu' : acc[j]? = some u := by simpa using hu
            obtain ⟨t, ht⟩ := hi.2 j u hu'
            exact ⟨t, ht⟩
          rw [e1] at z
          unfold rg3
          rw [List.map_map]
          exact z
        · rw [Array.toArray_toList]; exact IsTup.new _ _
end
end Sl
/-! SlMath0 -/
namespace Sl
/-! ### rows: what stands, the sides, a run (prices by places) -/
abbrev Pr := Int → Int → Int → Option Int
/-- the sides of x in what stands, p ahead of it all, n behind -/
def sides (n : Int) : Int → List Int → Int → Int × Int
  | p, [], _ => (p, n)
  | p, y :: ys, x => if y = x then (p, ys.headD n) else sides n y ys x
def runTo (pr : Pr) (n : Int) : List Int → List Int → Option (List Int × Int)
  | st, [] => some (st, 0)
  | st, x :: o =>
    if x ∈ st then
      match pr (sides n (-1) st x).1 x (sides n (-1) st x).2 with
      | none => none
      | some c => (runTo pr n (st.erase x) o).map fun r => (r.1, c + r.2)
    else none
/-- 0 .. n - 1 -/
def upTo (n : Nat) : List Int := (List.range n).map fun (i : Nat) => (i : Int)
theorem upTo_len (n : Nat) : (upTo n).length = n := by unfold upTo; rw [List.length_map, List.length_range]
theorem mem_upTo {n : Nat} {x : Int} : x ∈ upTo n ↔ 0 ≤ x ∧ x < n := by
  unfold upTo
  rw [List.mem_map]
  constructor
  · rintro ⟨i, hi, rfl⟩
    have := List.mem_range.mp hi
    omega
  · intro h
    exact ⟨x.toNat, List.mem_range.mpr (by omega), by omega⟩
/-- the sides by the number of x -/
theorem sides_at (n : Int) : ∀ (st : List Int) (p x : Int) (i : Nat), st[i]? = some x → (∀ j, j < i → st[j]? ≠ some x) →
    sides n p st x = ((if i = 0 then p else st.getD (i - 1) 0), if i + 1 < st.length then st.getD (i + 1) 0 else n)
  | [], _, _, _, h, _ => by simp at h
  | y :: ys, p, x, 0, h, _ => by
    simp at h
    subst h
    unfold sides
    rw [if_pos rfl]
    cases ys with
    | nil => simp
    | cons a r => simp
  | y :: ys, p, x, i + 1, h, hn => by
    have h0 : y ≠ x := fun e => hn 0 (Nat.succ_pos i) (by simp [e])
    have ih := sides_at n ys y x i (by simpa using h) fun j hj => by simpa using hn (j + 1) (by omega)
    unfold sides
    rw [if_neg h0, ih]
    refine Prod.ext ?_ ?_
    · cases i with
      | zero => simp
      | succ k => simp
    · show (if i + 1 < ys.length then ys.getD (i + 1) 0 else n) = if i + 1 + 1 < (y :: ys).length then (y :: ys).getD (i + 1 + 1) 0 else n
      by_cases h5 : i + 1 < ys.length
      · rw [if_pos h5, if_pos (by rw [List.length_cons]; omega)]
        simp
      · rw [if_neg h5, if_neg (by rw [List.length_cons]; omega)]
/-- the first number of an item -/
theorem first_at {α : Type} [DecidableEq α] : ∀ {xs : List α} {x : α}, x ∈ xs → ∃ i : Nat, xs[i]? = some x ∧ ∀ j, j < i → xs[j]? ≠ some x
  | y :: ys, x, h => by
    by_cases e : y = x
    · exact ⟨0, by simp [e], fun j hj => absurd hj (Nat.not_lt_zero j)⟩
    · have h2 : x ∈ ys := by
        rcases List.mem_cons.mp h with q | q
        · exact absurd q.symm e
        · exact q
      obtain ⟨i, h3, h4⟩ := first_at h2
      refine ⟨i + 1, by simpa using h3, fun j hj => ?_⟩
      cases j with
      | zero => simpa using e
      | succ j => simpa using h4 j (by omega)
end Sl
/-! SlLc -/
namespace Sl
open PySem PySem.Spec PyProof.Rows L2
theorem get_snoc {α : Type} {xs : List α} {i : Nat} {x : α} (h : xs[i]? = some x) : xs.take (i + 1) = xs.take i ++ [x] := by
  obtain ⟨h1, h2⟩ := List.getElem?_eq_some_iff.mp h
  rw [List.take_succ_eq_append_getElem h1, h2]
/-! ### comprehensions that keep what is known -/
section
variable {α : Type} {K : PySem.W.Frag} {g : TG} {tt : TT} {te : TE} {vs : List Nat} {σ : L2.St} {H1 : Hp} {D : Addr} {Qd : Hp → Prop}
/-- one turn: the item is kept by p and gives h -/
def Turn (g : TG) (tt : TT) (te : TE) (vs : List Nat) (σ : L2.St) (H1 : Hp) (x : V) (b : Bool) (y : V) : Prop := ∀ (H2 : Hp) (R : VK) (N : Hp → Prop), Same H1 H2 → (b = true → ∀ H3, Same H2 H3 → R y H3) → (b = false → ∀ H3, Same H2 H3 → N H3) →
  g x (wipe σ vs) H2 fun σ2 H3 => wipe σ2 vs = wipe σ vs ∧ tt σ2 H3 fun c H4 => if c = true then te σ2 H4 R else N H4
theorem lcPv_step {as : List α} {p : α → Bool} {h : α → V} {i : Nat} {x : V} {a : α} {H : Hp} (hD : H1 D = none) (hl : as.length ≤ 100000) (ha : as[i]? = some a) (t : Turn g tt te vs σ H1 x (p a) (h a))
    (q : Same H1 H ∧ H D = some (.lst (((as.take i).filter p).map h))) :
    g x (wipe σ vs) H fun σ2 H2 => wipe σ2 vs = wipe σ vs ∧ tt σ2 H2 fun b H3 => if b = true then te σ2 H3 fun y H4 => ∃ acc, H4 D = some (.lst acc) ∧ acc.length < sizeLine ∧
      (Same H1 (upd H4 D (.lst (acc ++ [y]))) ∧ upd H4 D (.lst (acc ++ [y])) D = some (.lst (((as.take (i + 1)).filter p).map h))) else (Same H1 H3 ∧ H3 D = some (.lst (((as.take (i + 1)).filter p).map h))) := by
  have e := get_snoc ha
  have hi := (List.getElem?_eq_some_iff.mp ha).1
  refine t H _ _ q.1 (fun c H3 g3 => ⟨_, g3 _ _ q.2, sz_lt ?_, (q.1.trans g3).mutS hD, ?_⟩) (fun c H3 g3 => ⟨q.1.trans g3, ?_⟩)
  · rw [List.length_map]
    have h1 := List.length_filter_le p (as.take i)
    have h2 := List.length_take_le i as
    omega
  · rw [upd_same, e, List.filter_append, List.map_append]
    simp [List.filter_cons, c]
  · rw [g3 _ _ q.2, e, List.filter_append, List.map_append]
    simp [List.filter_cons, c]
theorem lcF_list {a : Addr} {xs : List V} (as : List α) (p : α → Bool) (h : α → V) (hD : H1 D = none) (hs : SqL K H1 a xs) (hx : xs.length = as.length) (hl : as.length ≤ 100000)
    (t : ∀ (i : Nat) (x : V) (a : α), xs[i]? = some x → as[i]? = some a → Turn g tt te vs σ H1 x (p a) (h a)) (hd : ∀ H', Same H1 H' → H' D = some (.lst ((as.filter p).map h)) → Qd H') :
    ∃ W : Nat → Nat → Hp → Prop, (∃ m, W 0 m (upd H1 D (.lst []))) ∧ ∀ i m H, W i m H →
      ((Itl K a).stop i H ∧ Qd H) ∨ ((Itl K a).go i H ∧ ∃ Nx : Hp → Prop, (∀ H', Nx H' → ∃ m', m' < m ∧ W (i + 1) m' H') ∧ ∀ x H', (Itl K a).yld i H x H' → g x (wipe σ vs) H' fun σ2 H2 => wipe σ2 vs = wipe σ vs ∧ tt σ2 H2 fun b H3 =>
        if b = true then te σ2 H3 fun y H4 => ∃ acc, H4 D = some (.lst acc) ∧ acc.length < sizeLine ∧ Nx (upd H4 D (.lst (acc ++ [y]))) else Nx H3) := by
  refine lc_list (xs := xs) (fun i H => Same H1 H ∧ H D = some (.lst (((as.take i).filter p).map h))) ⟨same_new hD _, by rw [upd_same]; rfl⟩ (fun i H _ q => q.1.seq hs) (fun i x H hi q => ?_) (fun H q => ?_)
  · have h1 := (List.getElem?_eq_some_iff.mp hi).1
    have ha : as[i]? = some (as[i]'(by omega)) := List.getElem?_eq_getElem (by omega)
    exact lcPv_step hD hl ha (t i x _ hi ha) q
  · refine hd H q.1 ?_
    rw [q.2, hx, List.take_length]
theorem lcF_tup {a : Addr} {xs : List V} (as : List α) (p : α → Bool) (h : α → V) (hD : H1 D = none) (hs : SqT K H1 a xs) (hx : xs.length = as.length) (hl : as.length ≤ 100000)
    (t : ∀ (i : Nat) (x : V) (a : α), xs[i]? = some x → as[i]? = some a → Turn g tt te vs σ H1 x (p a) (h a)) (hd : ∀ H', Same H1 H' → H' D = some (.lst ((as.filter p).map h)) → Qd H') :
    ∃ W : Nat → Nat → Hp → Prop, (∃ m, W 0 m (upd H1 D (.lst []))) ∧ ∀ i m H, W i m H →
      ((Itt K a).stop i H ∧ Qd H) ∨ ((Itt K a).go i H ∧ ∃ Nx : Hp → Prop, (∀ H', Nx H' → ∃ m', m' < m ∧ W (i + 1) m' H') ∧ ∀ x H', (Itt K a).yld i H x H' → g x (wipe σ vs) H' fun σ2 H2 => wipe σ2 vs = wipe σ vs ∧ tt σ2 H2 fun b H3 =>
        if b = true then te σ2 H3 fun y H4 => ∃ acc, H4 D = some (.lst acc) ∧ acc.length < sizeLine ∧ Nx (upd H4 D (.lst (acc ++ [y]))) else Nx H3) := by
  refine lc_tup (xs := xs) (fun i H => Same H1 H ∧ H D = some (.lst (((as.take i).filter p).map h))) ⟨same_new hD _, by rw [upd_same]; rfl⟩ (fun i H _ q => q.1.tS hs) (fun i x H hi q => ?_) (fun H q => ?_)
  · have h1 := (List.getElem?_eq_some_iff.mp hi).1
    have ha : as[i]? = some (as[i]'(by omega)) := List.getElem?_eq_getElem (by omega)
    exact lcPv_step hD hl ha (t i x _ hi ha) q
  · refine hd H q.1 ?_
    rw [q.2, hx, List.take_length]
/-- over a range: the places lo + i -/
def fromTo (lo : Int) (n : Nat) : List Int := (List.range n).map fun (i : Nat) => lo + (i : Int)
theorem fromTo_len (lo : Int) (n : Nat) : (fromTo lo n).length = n := by unfold fromTo; rw [List.length_map, List.length_range]
theorem fromTo_get (lo : Int) {n i : Nat} (h : i < n) : (fromTo lo n)[i]? = some (lo + (i : Int)) := by
  unfold fromTo
  rw [List.getElem?_map, List.getElem?_range h]
  rfl
theorem mem_fromTo {lo x : Int} {n : Nat} : x ∈ fromTo lo n ↔ lo ≤ x ∧ x < lo + n := by
  unfold fromTo
  rw [List.mem_map]
  constructor
  · rintro ⟨i, hi, rfl⟩
    have := List.mem_range.mp hi
    omega
  · intro h
    exact ⟨(x - lo).toNat, List.mem_range.mpr (by omega), by omega⟩
theorem lcF_range {lo : Int} {n : Nat} (p : Int → Bool) (h : Int → V) (hD : H1 D = none) (hl : n ≤ 100000)
    (t : ∀ i, i < n → Turn g tt te vs σ H1 (.int (lo + (i : Nat))) (p (lo + (i : Nat))) (h (lo + (i : Nat)))) (hd : ∀ H', Same H1 H' → H' D = some (.lst (((fromTo lo n).filter p).map h)) → Qd H') :
    ∃ W : Nat → Nat → Hp → Prop, (∃ m, W 0 m (upd H1 D (.lst []))) ∧ ∀ i m H, W i m H →
      ((Itr lo n).stop i H ∧ Qd H) ∨ ((Itr lo n).go i H ∧ ∃ Nx : Hp → Prop, (∀ H', Nx H' → ∃ m', m' < m ∧ W (i + 1) m' H') ∧ ∀ x H', (Itr lo n).yld i H x H' → g x (wipe σ vs) H' fun σ2 H2 => wipe σ2 vs = wipe σ vs ∧ tt σ2 H2 fun b H3 =>
        if b = true then te σ2 H3 fun y H4 => ∃ acc, H4 D = some (.lst acc) ∧ acc.length < sizeLine ∧ Nx (upd H4 D (.lst (acc ++ [y]))) else Nx H3) := by
  refine lc_range (fun i H => Same H1 H ∧ H D = some (.lst ((((fromTo lo n).take i).filter p).map h))) ⟨same_new hD _, by rw [upd_same]; rfl⟩ (fun i H hi q => ?_) (fun H q => ?_)
  · exact lcPv_step hD (by rw [fromTo_len]; exact hl) (fromTo_get lo hi) (t i hi) q
  · refine hd H q.1 ?_
    rw [q.2, List.take_of_length_le (by rw [fromTo_len]; exact Nat.le_refl _)]
end
theorem filter_tt {α : Type} (as : List α) : as.filter (fun _ => true) = as := by
  induction as with
  | nil => rfl
  | cons a r ih => rw [List.filter_cons, if_pos rfl, ih]
theorem getD_of {as : List Int} {j : Nat} (h : j < as.length) : as[j]? = some (as.getD j 0) := by
  rw [List.getD_eq_getElem?_getD, List.getElem?_eq_getElem h]
  rfl
/-- an int's place in a list of ints -/
theorem mapI {ns : List Int} {i : Nat} {x : V} (h : (ns.map V.int)[i]? = some x) : ∃ n, ns[i]? = some n ∧ x = .int n := by
  rw [List.getElem?_map] at h
  cases q : ns[i]? with
  | none => rw [q] at h; cases h
  | some n => rw [q] at h; cases h; exact ⟨n, rfl, rfl⟩
theorem mapI2 {ns : List Int} {i : Nat} {x : V} {n : Int} (h : (ns.map V.int)[i]? = some x) (h2 : ns[i]? = some n) : x = .int n := by
  rw [List.getElem?_map, h2] at h
  cases h
  rfl
end Sl
/-! SlW3 -/
namespace Sl
open PySem PySem.Spec PyProof.Rows L2
/-! ### prices by places -/
def minO : List Int → Option Int
  | [] => none
  | n :: ns => match minO ns with
    | none => some n
    | some m => some (if n ≤ m then n else m)
theorem minO_is : ∀ ns : List Int, IsMin ns (minO ns)
  | [] => rfl
  | n :: ns => by
    have ih := minO_is ns
    unfold minO
    cases h : minO ns with
    | none =>
      rw [h] at ih
      have e : ns = [] := ih
      subst e
      exact ⟨List.mem_cons_self, fun y hy => by simp at hy; omega⟩
    | some m =>
      rw [h] at ih
      obtain ⟨h1, h2⟩ := ih
      by_cases c : n ≤ m
      · show IsMin (n :: ns) (some (if n ≤ m then n else m))
        rw [if_pos c]
        exact ⟨List.mem_cons_self, fun y hy => by
          rcases List.mem_cons.mp hy with e | e
          · omega
          · have := h2 y e; omega⟩
      · show IsMin (n :: ns) (some (if n ≤ m then n else m))
        rw [if_neg c]
        exact ⟨List.mem_cons_of_mem _ h1, fun y hy => by
          rcases List.mem_cons.mp hy with e | e
          · omega
          · exact h2 y e⟩
/-- what the letter at x costs between those at a and b -/
def pr (z : Str) (rs : List Rule) : Pr := fun a x b => minO (prices rs (signAt z a) (signAt z x) (signAt z b))
/-! ### a row under way -/
def But (L : List Addr) (H H' : Hp) : Prop := ∀ b o, b ∉ L → H b = some o → H' b = some o
theorem But.same {L : List Addr} {H0 H H' : Hp} (h : ∀ a ∈ L, H0 a = none) (e : Same H0 H) (b : But L H H') : Same H0 H' := fun a o q =>
  b a o (fun m => by rw [h a m] at q; cases q) (e a o q)
theorem But.put {a : Addr} {L : List Addr} {H H' : Hp} {o : HO} (b : But L H H') (h : a ∈ L) : But L H (upd H' a o) := fun c u hc q => by
  rw [upd_ne (fun (e : c = a) => hc (by rw [e]; exact h))]
  exact b c u hc q
theorem But.new {a : Addr} {L : List Addr} {H H' : Hp} {o : HO} (b : But L H H') (h : H' a = none) : But L H (upd H' a o) := fun c u hc q => same_new h o c u (b c u hc q)
theorem But.free {L : List Addr} {H H' : Hp} {a : Addr} (b : But L H H') (h : a ∉ L) (e : H' a = none) : H a = none := by
  cases q : H a with
  | none => rfl
  | some o => rw [b a o h q] at e; cases e
theorem But.seq {L : List Addr} {H H1 H2 : Hp} (b : But L H H1) (g : Same H1 H2) : But L H H2 := fun c u hc q => g c u (b c u hc q)
theorem _root_.L2.Same.but {H H1 : Hp} (g : Same H H1) (L : List Addr) : But L H H1 := fun c u _ q => g c u q
theorem rgV_upTo (n : Nat) : rgV 0 n = (upTo n).map V.int := by
  unfold rgV upTo
  rw [List.map_map]
  rw [show ((n : Int) - 0).toNat = n by omega]
  exact List.map_congr_left fun i _ => by show V.int (0 + (i : Int)) = V.int i; rw [Int.zero_add]
theorem inV_int {x : Int} {st : List Int} : inV (.int x) (st.map V.int) = decide (x ∈ st) := by
  rw [Bool.eq_iff_iff]
  simp only [inV, eqV, List.any_map, List.any_eq_true, beq_iff_eq, decide_eq_true_eq, Function.comp]
  constructor
  · rintro ⟨y, hy, e⟩
    cases e
    exact hy
  · intro h
    exact ⟨x, h, rfl⟩
abbrev cLine (K : PySem.W.Frag) : Addr := He.ga K "Line"
def lineF (z : Str) (bp ls lg : Addr) : List (Str × V) := [("row_word", .str z), ("row_book", .ref bp), ("row_is_ring", .bl false), ("row_standing", .ref ls), ("row_gone", .ref lg)]
def Gone (K : PySem.W.Frag) (H : Hp) (gs : List V) (cs : List Int) : Prop := Paired (fun v c => ∃ q x, v = V.ref q ∧ SqT K H q [.int x, .int c]) gs cs
structure LineAt (K : PySem.W.Frag) (H : Hp) (a dx bp : Addr) (xs : List V) (ls lg : Addr) (z : Str) (rs : List Rule) (st cs : List Int) : Prop where
  gw : GoodW z
  gb : GoodB rs
  ob : H a = some (.ins (cLine K) dx (lineF z bp ls lg))
  bk : BookAt K H bp xs rs
  ls : H ls = some (.lst (st.map V.int))
  lg : ∃ gs, H lg = some (.lst gs) ∧ Gone K H gs cs
  rg : ∀ y ∈ st, 0 ≤ y ∧ y < (z.cps.size : Int)
  cl : cs.length + st.length ≤ 120
theorem LineAt.same {K : PySem.W.Frag} {H H' : Hp} {a dx bp : Addr} {xs : List V} {ls lg : Addr} {z : Str} {rs : List Rule} {st cs : List Int} (l : LineAt K H a dx bp xs ls lg z rs st cs) (e : Same H H') : LineAt K H' a dx bp xs ls lg z rs st cs := by
  obtain ⟨gs, h1, h2⟩ := l.lg
  exact ⟨l.gw, l.gb, e _ _ l.ob, l.bk.mono e.imS, e _ _ l.ls, ⟨gs, e _ _ h1, Paired.mapP h2 fun v c ⟨q, x, h3, h4⟩ => ⟨q, x, h3, e.tS h4⟩⟩, l.rg, l.cl⟩
theorem sc_need_order : FnScope ["word", "thing", "place"] ["word", "thing"] (defScope s_need_order) := ⟨rfl, rfl, rfl, by decide +kernel, rfl, by decide +kernel, by decide +kernel⟩
theorem bd_need_order : Bnd d_need_order ["word", "thing"] := fun _ _ _ _ _ _ us hl => match us, hl with | [_, _], _ => rfl
theorem sc_Line_init : FnScope ["self", "word", "book", "ring"] ["self", "word", "book", "ring"] (defScope s_Line_init) := ⟨rfl, rfl, rfl, by decide +kernel, rfl, by decide +kernel, by decide +kernel⟩
theorem sc_Line_need_standing : FnScope ["self", "place"] ["self", "place"] (defScope s_Line_need_standing) := ⟨rfl, rfl, rfl, by decide +kernel, rfl, by decide +kernel, by decide +kernel⟩
theorem bd_Line_need_standing : Bnd d_Line_need_standing ["self", "place"] := fun _ _ _ _ _ _ us hl => match us, hl with | [_, _], _ => rfl
theorem sc_Line_sides_of : FnScope ["self", "place", "at", "many", "ahead"] ["self", "place"] (defScope s_Line_sides_of) := ⟨rfl, rfl, rfl, by decide +kernel, rfl, by decide +kernel, by decide +kernel⟩
theorem bd_Line_sides_of : Bnd d_Line_sides_of ["self", "place"] := fun _ _ _ _ _ _ us hl => match us, hl with | [_, _], _ => rfl
theorem sc_Line_price_of : FnScope ["self", "place", "ahead", "behind", "side"] ["self", "place"] (defScope s_Line_price_of) := ⟨rfl, rfl, rfl, by decide +kernel, rfl, by decide +kernel, by decide +kernel⟩
theorem bd_Line_price_of : Bnd d_Line_price_of ["self", "place"] := fun _ _ _ _ _ _ us hl => match us, hl with | [_, _], _ => rfl
theorem sc_Line_strike : FnScope ["self", "place", "found"] ["self", "place"] (defScope s_Line_strike) := ⟨rfl, rfl, rfl, by decide +kernel, rfl, by decide +kernel, by decide +kernel⟩
theorem bd_Line_strike : Bnd d_Line_strike ["self", "place"] := fun _ _ _ _ _ _ us hl => match us, hl with | [_, _], _ => rfl
theorem sc_Line_standing : FnScope ["self"] ["self"] (defScope s_Line_standing) := ⟨rfl, rfl, rfl, by decide +kernel, rfl, by decide +kernel, by decide +kernel⟩
theorem bd_Line_standing : Bnd d_Line_standing ["self"] := fun _ _ _ _ _ _ us hl => match us, hl with | [_], _ => rfl
theorem sc_Line_paid : FnScope ["self", "place", "cost"] ["self"] (defScope s_Line_paid) := ⟨rfl, rfl, rfl, by decide +kernel, rfl, by decide +kernel, by decide +kernel⟩
theorem bd_Line_paid : Bnd d_Line_paid ["self"] := fun _ _ _ _ _ _ us hl => match us, hl with | [_], _ => rfl
theorem sc_gone_along : FnScope ["word", "book", "order", "ring", "found", "place"] ["word", "book", "order", "ring"] (defScope s_gone_along) := ⟨rfl, rfl, rfl, by decide +kernel, rfl, by decide +kernel, by decide +kernel⟩
theorem bd_gone_along : Bnd d_gone_along ["word", "book", "order", "ring"] := fun _ _ _ _ _ _ us hl => match us, hl with | [_, _, _, _], _ => rfl
theorem sc_run : FnScope ["word", "book", "order", "ring", "found", "many"] ["word", "book", "order", "ring"] (defScope s_run) := ⟨rfl, rfl, rfl, by decide +kernel, rfl, by decide +kernel, by decide +kernel⟩
def spNeedOrder (K : PySem.W.Frag) : Sp := fun vs H Q _ => ∃ (z : Str) (p : Addr) (ns : List Int), vs = [.str z, .ref p] ∧ GoodW z ∧ SqT K H p (ns.map V.int) ∧ ns.Nodup ∧ (∀ x ∈ ns, 0 ≤ x ∧ x < (z.cps.size : Int)) ∧ ∀ H', Same H H' → Q .non H'
theorem signAt_in {z : Str} {x : Int} (h0 : 0 ≤ x) (h1 : x < (z.cps.size : Int)) : atI z.cps.toList x = some (signAt z x) := by
  have h2 : x.toNat < z.cps.toList.length := by rw [Array.length_toList]; omega
  have := atI_nat (xs := z.cps.toList) (j := x.toNat) (v := z.cps.toList[x.toNat]) (by simp [h2])
  rw [show ((x.toNat : Nat) : Int) = x by omega] at this
  rw [this]
  unfold signAt
  rw [if_neg (by omega), List.getElem?_eq_getElem h2]
  rfl
theorem erase_at {α : Type} [DecidableEq α] : ∀ {xs : List α} {x : α} {j : Nat}, xs[j]? = some x → (∀ m, m < j → xs[m]? ≠ some x) → xs.eraseIdx j = xs.erase x
  | [], _, _, h, _ => by simp at h
  | y :: ys, x, 0, h, _ => by simp at h; subst h; simp
  | y :: ys, x, j + 1, h, hn => by
    have e : y ≠ x := fun e => hn 0 (Nat.succ_pos j) (by simp [e])
    rw [List.eraseIdx_cons_succ, erase_at (xs := ys) (by simpa using h) (fun m hm => by simpa using hn (m + 1) (by omega)), List.erase_cons_tail (by simpa using e)]
theorem paired_snoc {α β : Type} {F : α → β → Prop} : ∀ {l1 : List α} {l2 : List β} {x : α} {y : β}, Paired F l1 l2 → F x y → Paired F (l1 ++ [x]) (l2 ++ [y])
  | _, _, _, _, .nil, h => .cons h .nil
  | _, _, _, _, .cons a r, h => .cons a (paired_snoc r h)
section
variable {W : Wd} (Z : Hd W)
include Z
theorem ok_need_order : Cal W 3 "need_order" ["word", "thing"] (spNeedOrder W.K) := by
  refine cal_mk (d := d_need_order) Z.g_need_order Z.d_need_order sc_need_order bd_need_order (fun vs H Q E h => ?_) fun f cdv A outer s H vs Q E hr h => ?_
  · obtain ⟨c, e, _, rfl, _⟩ := h; rfl
  obtain ⟨z, p, ns, rfl, hz, hp, hn, hr0, k⟩ := h
  refine ⟨_, pss_cons (ps_if (PW.pt (pw_or (pt_not (pt_val (pe_callB (k_is W.K) (by rfl) Z.m_isinstance (by decide +kernel) (pa_cons (pv 1) (pa_cons (pe_bltn (v := .ty "tuple") (by rfl) Z.m_tuple (by decide +kernel) rfl) pa_nil))))) (pw_or1 (pt_not (pt_val (pe_callB (k_all W.K) (by rfl) Z.m_all (by decide +kernel) (pa_cons (pe_lc (own := [("place", 2)]) (g := gName 2) rfl sc_need_order.nd (k_tup W.K (pv 1)) (blkOk_by (own := [("place", 2)]) (N := ["word", "thing", "place"]) (sc := defScope s_need_order) (by decide +kernel)) (fun _ _ _ _ _ => pg_name (i := 2) sc_need_order.nd rfl (Or.inl rfl)) (fun _ _ _ _ _ => pts_nil) (fun _ _ _ _ _ => (pe_iwm Z (hr.mono (by decide)) (pv 2) (pe_op op_sub (pe_callB call_len_str (by rfl) Z.m_len (by decide +kernel) (pa_cons (pv 0) pa_nil)) pe_int)))) pa_nil))))))) (pss_one (ps_never)) pss_nil)
      (pss_one (ps_if (pt_cmpR op_lt (k_lenSetT W.K (by rfl) Z.m_len (by rfl) Z.m_set (pv 1)) (pe_callB (k_len_seq W.K) (by rfl) Z.m_len (by decide +kernel) (pa_cons (pv 1) pa_nil)) (nomark _)) (pss_one (ps_never)) pss_nil)), ?_⟩
  have hl := hz.len
  have hnl : ns.length ≤ 120 := by
    have := nodup_len (ys := upTo z.cps.size) hn fun x hx => mem_upTo.mpr (hr0 x hx)
    rw [upTo_len] at this
    omega
  refine ⟨_, rfl, _, "tuple", "tuple", true, rfl, tyT hp, by decide +kernel, _, rfl, ?_⟩
  refine iteF ⟨_, rfl, p, rfl, ⟨_, hp⟩, fun D hD => ?_⟩
  refine lc_tup (xs := ns.map V.int) (fun i H' => Same H H' ∧ H' D = some (.lst ((List.replicate i true).map V.bl))) ⟨same_new hD _, by rw [upd_same]; rfl⟩ (fun i H' _ q => q.1.tS hp) (fun i x H' hx q => ?_) (fun H' q => ?_)
  · obtain ⟨g, hq⟩ := q
    have hi : i < ns.length := by have := (List.getElem?_eq_some_iff.mp hx).1; rwa [List.length_map] at this
    rw [List.getElem?_map, List.getElem?_eq_getElem hi] at hx
    cases hx
    have hr1 := hr0 ns[i] (List.getElem_mem hi)
    refine ⟨rfl, _, rfl, _, rfl, z, rfl, sz_of (by show z.cps.size ≤ _; omega), _, _, rfl, rfl, rfl, rfl, ns[i], 0, _, rfl, _, hq, sz_lt (by simp; omega), g.mutS hD, ?_⟩
    have e : decide ((0 : Int) ≤ ns[i] ∧ ns[i] ≤ (z.length : Int) - 1) = true := decide_eq_true ⟨hr1.1, by show ns[i] ≤ (z.cps.size : Int) - 1; omega⟩
    show upd H' D (.lst ((List.replicate i true).map V.bl ++ [V.bl (decide ((0 : Int) ≤ ns[i] ∧ ns[i] ≤ (z.length : Int) - 1))])) D = _
    rw [e, upd_same, List.replicate_succ', List.map_append]
    rfl
  · obtain ⟨g, hq⟩ := q
    refine ⟨D, _, rfl, SqL.of hq, _, rfl, ?_⟩
    have e : (List.replicate (ns.map V.int).length true).all id = true := by
      rw [List.all_eq_true]
      intro x hx
      exact (List.mem_replicate.mp hx).2
    rw [e]
    refine iteF ?_
    refine ⟨_, rfl, p, ns, rfl, g.tS hp, hn, by omega, _, rfl, p, _, rfl, .inr (g.tS hp), _, _, rfl, rfl, _, rfl, ?_⟩
    have e2 : decide ((ns.length : Int) < ((ns.map V.int).length : Int)) = false := decide_eq_false (by rw [List.length_map]; omega)
    rw [e2]
    exact iteF (k H' g)
def spLineInit (K : PySem.W.Frag) : Sp := fun vs H Q _ => ∃ (a dx bp : Addr) (xs : List V) (z : Str) (rs : List Rule), vs = [.ref a, .str z, .ref bp, .bl false] ∧ H a = some (.ins (cLine K) dx []) ∧ GoodW z ∧ GoodB rs ∧ BookAt K H bp xs rs ∧
  ∀ ls lg H', But [a] H H' → H' a = some (.ins (cLine K) dx (lineF z bp ls lg)) → H' ls = some (.lst ((upTo z.cps.size).map V.int)) → H' lg = some (.lst []) → H ls = none → H lg = none → ls ≠ lg → Q .non H'
omit Z in
theorem fn_Line_init (Z : Hd W) : ∃ f fd, Mk W.K (He.ga W.K "Line") f ∧ W.mg "Line" = some (.ref (He.ga W.K "Line")) ∧ FnOk W.P W.w W.K W.mg W.base CX0 5 f fd ["self", "word", "book", "ring"] (spLineInit W.K) ∧
    FunD W.K "__init__" "Line.__init__" d_Line_init.params d_Line_init.body d_Line_init.scope [] [("ring", .bl false)] f fd := by
  obtain ⟨fd, F⟩ := Z.d_Line_init
  refine ⟨_, fd, Z.mk_Line, Z.g_Line, fnk F sc_Line_init (fun vs H Q E h => ?_) (fun f cdv A outer s H vs Q E hr h => ?_), F⟩
  · obtain ⟨_, _, _, _, _, _, rfl, _⟩ := h; rfl
  obtain ⟨a, dx, bp, xs, z, rs, rfl, ha, hz, hg, hb, k⟩ := h
  refine ⟨_, pss_cons (ps_expr (pe_cal (ok_need_word Z) (hr.mono (by decide)) (pa_cons (pv 1) pa_nil)))
      (pss_cons (ps_expr (pe_cal (ok_need_book Z) (hr.mono (by decide)) (pa_cons (pv 2) pa_nil)))
      (pss_cons (ps_expr (pe_cal (ok_need_ring Z) (hr.mono (by decide)) (pa_cons (pv 3) pa_nil)))
      (pss_cons (ps_asg (pe_tup (pa_cons (pv 1) (pa_cons (pv 2) (pa_cons (pv 3) pa_nil)))) (pg_tup rfl (pgs_cons (k_pgfld W.K (pv 0)) (pgs_cons (k_pgfld W.K (pv 0)) (pgs_cons (k_pgfld W.K (pv 0)) pgs_nil)))))
      (pss_cons (ps_fld (pv 0) (pe_listRg rfl (by rfl) Z.m_list (prg_1 (by rfl) Z.m_range (pe_callB call_len_str (by rfl) Z.m_len (by decide +kernel) (pa_cons (pv 1) pa_nil)))) (by rfl))
      (pss_one (ps_fld (pv 0) (pe_lst pa_nil) (by rfl))))))), ?_⟩
  refine ⟨_, rfl, z, rfl, hz, fun H1 g1 => ?_⟩
  refine ⟨_, rfl, bp, xs, rs, rfl, g1.imS |> hb.mono, hg, fun H2 g2 => ?_⟩
  refine ⟨_, rfl, false, rfl, ?_⟩
  have e2 : H2 a = some (.ins (cLine W.K) dx []) := g2 _ _ (g1 _ _ ha)
  have hl := hz.len
  refine ⟨_, rfl, _, rfl, _, rfl, by show 3 ≤ sizeLine; decide, fun t ht => ?_⟩
  have ta : t ≠ a := fun e => by rw [e, e2] at ht; cases ht
  refine ⟨t, _, rfl, SqT.of upd_same, rfl, ?_⟩
  refine ⟨_, _, rfl, _, rfl, a, _, dx, _, rfl, (upd_ne ta.symm).trans e2, Z.c_Line, Z.n_row_word, by decide, ?_⟩
  refine ⟨_, _, rfl, _, rfl, a, _, dx, _, rfl, upd_same, Z.c_Line, Z.n_row_book, by show (1 : Nat) < 1000; decide, ?_⟩
  refine ⟨_, _, rfl, _, rfl, a, _, dx, _, rfl, upd_same, Z.c_Line, Z.n_row_is_ring, by show (2 : Nat) < 1000; decide, ?_⟩
  rw [upd_upd, upd_upd]
  refine ⟨rfl, _, rfl, z, rfl, sz_of (by show z.cps.size ≤ _; omega), _, rfl, RgOk.of_le (by omega) (by show (z.cps.size : Int) ≤ _; omega) (by omega) (by show (0 : Int) ≤ (z.cps.size : Int); omega), fun ls hls => ?_⟩
  have la : a ≠ ls := fun e => by rw [← e, upd_same] at hls; cases hls
  refine ⟨_, rfl, a, _, dx, _, rfl, (upd_ne la).trans upd_same, Z.c_Line, Z.n_row_standing, by show (3 : Nat) < 1000; decide, ?_⟩
  refine ⟨by show 0 ≤ sizeLine; decide, fun lg hlg => ?_⟩
  have lga : a ≠ lg := fun e => by rw [← e, upd_same] at hlg; cases hlg
  refine ⟨_, rfl, a, _, dx, _, rfl, (upd_ne lga).trans upd_same, Z.c_Line, Z.n_row_gone, by show (4 : Nat) < 1000; decide, ?_⟩
  have hll : ls ≠ lg := fun e => by rw [← e, upd_ne (fun e => la e.symm), upd_same] at hlg; cases hlg
  refine k ls lg _ ?_ upd_same ?_ ?_ ?_ ?_ hll
  · exact But.put (But.new (But.put (But.new (But.put (But.new ((g1.trans g2).but [a]) ht) List.mem_cons_self) hls) List.mem_cons_self) hlg) List.mem_cons_self
  · rw [upd_ne (fun e => la e.symm), upd_ne hll, upd_ne (fun e => la e.symm), upd_same]
    exact congrArg (fun q => some (HO.lst q)) (rgV_upTo z.cps.size)
  · rw [upd_ne (fun e => lga e.symm), upd_same]
  · refine But.free (But.put (But.new ((g1.trans g2).but [a]) ht) ?_) ?_ hls
    all_goals simp
    exact fun e => la e.symm
  · refine But.free (But.put (But.new (But.put (But.new ((g1.trans g2).but [a]) ht) ?_) hls) ?_) ?_ hlg
    all_goals simp
    exact fun e => lga e.symm
omit Z in
theorem kb_Line {f : Addr} {fd : FuncData} (F : FunD W.K "__init__" "Line.__init__" d_Line_init.params d_Line_init.body d_Line_init.scope [] [("ring", .bl false)] f fd) :
    ∃ mv : List Value, KBn W.K fd ["self", "word", "book", "ring"] (2 + 1) ["ring"] (fun us ws => us ++ (mv ++ ws)) (fun vs zs => vs ++ ([] ++ zs)) :=
  FunD.kbinds0 F 3 ["ring"] [] (fun us mv ws => us ++ (mv ++ ws)) (by decide) (by simp) (fun a b c => a.append (b.append c)) fun D doc pm an cdv ct us mv ws h1 h2 h3 =>
    match us, mv, ws, h1, h2, h3 with | [u, v, x], [], [w], _, _, _ => rfl
/-! ### the methods of a line -/
def spNeedStanding (K : PySem.W.Frag) : Sp := fun vs H Q _ => ∃ a dx bp xs ls lg z rs st cs, ∃ x : Int, vs = [.ref a, .int x] ∧ LineAt K H a dx bp xs ls lg z rs st cs ∧ x ∈ st ∧ Q .non H
def spSidesOf (K : PySem.W.Frag) : Sp := fun vs H Q _ => ∃ a dx bp xs ls lg z rs st cs, ∃ x : Int, vs = [.ref a, .int x] ∧ LineAt K H a dx bp xs ls lg z rs st cs ∧ x ∈ st ∧
  ∀ q H', Same H H' → H' q = some (.tup [.int (sides (z.cps.size : Int) (-1) st x).1, .int (sides (z.cps.size : Int) (-1) st x).2]) → Q (.ref q) H'
def prL (z : Str) (rs : List Rule) (st : List Int) (x : Int) : Option Int := pr z rs (sides (z.cps.size : Int) (-1) st x).1 x (sides (z.cps.size : Int) (-1) st x).2
def spPriceOf (K : PySem.W.Frag) : Sp := fun vs H Q _ => ∃ a dx bp xs ls lg z rs st cs, ∃ x : Int, vs = [.ref a, .int x] ∧ LineAt K H a dx bp xs ls lg z rs st cs ∧ x ∈ st ∧
  ∀ H', Same H H' → Q (optV (prL z rs st x)) H'
def spStrike (K : PySem.W.Frag) : Sp := fun vs H Q _ => ∃ a dx bp xs ls lg z rs st cs, ∃ x c : Int, vs = [.ref a, .int x] ∧ LineAt K H a dx bp xs ls lg z rs st cs ∧ x ∈ st ∧ prL z rs st x = some c ∧ ls ≠ lg ∧
  ∀ H', But [ls, lg] H H' → LineAt K H' a dx bp xs ls lg z rs (st.erase x) (cs ++ [c]) → Q (.int c) H'
def spStanding (K : PySem.W.Frag) : Sp := fun vs H Q _ => ∃ a dx bp xs ls lg z rs st cs, vs = [.ref a] ∧ LineAt K H a dx bp xs ls lg z rs st cs ∧
  ∀ q H', Same H H' → H' q = some (.tup (st.map V.int)) → Q (.ref q) H'
def spPaid (K : PySem.W.Frag) : Sp := fun vs H Q _ => ∃ a dx bp xs ls lg z rs st cs, vs = [.ref a] ∧ LineAt K H a dx bp xs ls lg z rs st cs ∧
  ∀ H', Same H H' → Q (.int cs.sum) H'
theorem ok_Line_need_standing : CalM W 2 "Line" "need_standing" ["self", "place"] (spNeedStanding W.K) := by
  refine calm_mk (d := d_Line_need_standing) Z.t_Line_need_standing Z.d_Line_need_standing sc_Line_need_standing bd_Line_need_standing (fun vs H Q E h => ?_) fun f cdv A outer s H vs Q E hr h => ?_
  · obtain ⟨_, _, _, _, _, _, _, _, _, _, _, rfl, _⟩ := h; rfl
  obtain ⟨a, dx, bp, xs, ls, lg, z, rs, st, cs, x, rfl, l, hx, k⟩ := h
  refine ⟨_, pss_one (ps_if (PW.pt (pw_or (pt_not (pt_val (pe_iwm Z (hr.mono (by decide)) (pv 1) (pe_op op_sub (pe_callB call_len_str (by rfl) Z.m_len (by decide +kernel) (pa_cons (k_fld W.K (pv 0)) pa_nil)) pe_int)))) (pw_or1 (pt_cmpR (k_op_notIn_seq W.K) (pv 1) (k_fld W.K (pv 0)) (by rfl))))) (pss_one (ps_never)) pss_nil), ?_⟩
  have hl := l.gw.len
  have hr1 := l.rg x hx
  refine ⟨_, rfl, _, rfl, a, _, dx, _, _, rfl, l.ob, Z.c_Line, Z.n_row_word, rfl, z, rfl, sz_of (by show z.cps.size ≤ _; omega), _, _, rfl, rfl, rfl, rfl, x, 0, _, rfl, ?_⟩
  rw [decide_eq_true (⟨hr1.1, by show x ≤ (z.cps.size : Int) - 1; omega⟩ : (0 : Int) ≤ x ∧ x ≤ (z.length : Int) - 1)]
  refine ⟨_, rfl, iteF ⟨_, rfl, _, rfl, a, _, dx, _, _, rfl, l.ob, Z.c_Line, Z.n_row_standing, rfl, ls, _, rfl, .inl (SqL.of l.ls), rfl, flat_ints _, _, rfl, ?_⟩⟩
  show if (!inV (V.int x) (List.map V.int st)) = true then _ else _
  rw [inV_int, decide_eq_true hx]
  exact iteF k
theorem ok_Line_sides_of : CalM W 2 "Line" "sides_of" ["self", "place"] (spSidesOf W.K) := by
  refine calm_mk (d := d_Line_sides_of) Z.t_Line_sides_of Z.d_Line_sides_of sc_Line_sides_of bd_Line_sides_of (fun vs H Q E h => ?_) fun f cdv A outer s H vs Q E hr h => ?_
  · obtain ⟨_, _, _, _, _, _, _, _, _, _, _, rfl, _⟩ := h; rfl
  obtain ⟨a, dx, bp, xs, ls, lg, z, rs, st, cs, x, rfl, l, hx, k⟩ := h
  refine ⟨_, pss_cons (ps_par (i := 2) (j := 3) (by rfl) sc_Line_sides_of.nd rfl rfl (by decide) rfl rfl (pa_cons (k_indexM W.K (k_fld W.K (pv 0)) (pv 1)) (pa_cons (pe_callB (k_len_seq W.K) (by rfl) Z.m_len (by decide +kernel) (pa_cons (k_fld W.K (pv 0)) pa_nil)) pa_nil)) (by rfl))
      (pss_cons (ps_if (pt_val (k_fld W.K (pv 0))) (pss_one (ps_ret (pe_tup (pa_cons (pe_ix (k_ix_list W.K) (k_fld W.K (pv 0)) (pe_op op_sub (pv 2) pe_int) (fun _ _ => rfl)) (pa_cons (pe_ix (k_ix_list W.K) (k_fld W.K (pv 0)) (pe_op op_mod (pe_op op_add (pv 2) pe_int) (pv 3)) (fun _ _ => rfl)) pa_nil))))) pss_nil)
      (pss_cons (ps_set (i := 4) sc_Line_sides_of.nd rfl (Or.inl rfl) (pe_ifExp (pt_cmpR op_gt (pv 2) pe_int (nomark _)) (pe_ix (k_ix_list W.K) (k_fld W.K (pv 0)) (pe_op op_sub (pv 2) pe_int) (fun _ _ => rfl)) (pe_un un_neg pe_int)))
      (pss_one (ps_ret (pe_tup (pa_cons (pv 4) (pa_cons (pe_ifExp (pt_cmpR op_lt (pe_op op_add (pv 2) pe_int) (pv 3) (nomark _)) (pe_ix (k_ix_list W.K) (k_fld W.K (pv 0)) (pe_op op_add (pv 2) pe_int) (fun _ _ => rfl)) (pe_callB call_len_str (by rfl) Z.m_len (by decide +kernel) (pa_cons (k_fld W.K (pv 0)) pa_nil))) pa_nil))))))), ?_⟩
  have hl := l.gw.len
  have hc := l.cl
  obtain ⟨i, hi, hmin⟩ := first_at hx
  have hs := sides_at (z.cps.size : Int) st (-1) x i hi hmin
  have hil : i < st.length := (List.getElem?_eq_some_iff.mp hi).1
  have hsq : SqL W.K H ls (st.map V.int) := SqL.of l.ls
  have hi' : (st.map V.int)[i]? = some (V.int x) := by rw [List.getElem?_map, hi]; rfl
  have hno : ∀ (m : Nat) (z' : V), m < i → (st.map V.int)[m]? = some z' → eqV z' (V.int x) = false := by
    intro m z' hm hz'
    rw [List.getElem?_map] at hz'
    cases hq : st[m]? with
    | none => rw [hq] at hz'; cases hz'
    | some y =>
      rw [hq] at hz'
      cases hz'
      refine beq_eq_false_iff_ne.mpr fun e => ?_
      cases e
      exact hmin m hm hq
  have hat : ∀ j : Nat, j < st.length → atI (st.map V.int) (j : Int) = some (V.int (st.getD j 0)) := fun j hj => atI_nat (by rw [List.getElem?_map, getD_of hj]; rfl)
  refine ⟨_, rfl, a, _, _, _, _, rfl, l.ob, Z.c_Line, Z.n_row_standing, rfl, .inl ⟨rfl, _, hsq⟩, _, rfl, ls, _, _, i, _, rfl, rfl, hsq, rfl, flat_ints _, hi', beq_self_eq_true _, hno, ?_⟩
  refine ⟨_, rfl, a, _, _, _, _, rfl, l.ob, Z.c_Line, Z.n_row_standing, rfl, ls, _, rfl, .inl hsq, _, _, rfl, ?_⟩
  refine ⟨_, rfl, a, _, _, _, _, rfl, l.ob, Z.c_Line, Z.n_row_is_ring, rfl, _, rfl, iteF ?_⟩
  have R : ∀ s1 : Int, s1 = (sides (z.cps.size : Int) (-1) st x).1 →
      tTup (tCons (tVar 4) (tCons (tIf (tTest (tOp (rI0 fun i j => V.bl (decide (i < j))) (tOp (rI0 fun i j => V.int (i + j)) (tVar 2) (tC (V.int 1))) (tVar 3)))
        (tOp (rIxL W.K) (tFld W.K (tVar 0) (Str.ofString "row_standing")) (tOp (rI0 fun i j => V.int (i + j)) (tVar 2) (tC (V.int 1))))
        (tCB (fun xs H Q => ∃ z, xs = [V.str z] ∧ z.length ≤ sizeLine ∧ Q (V.int ↑z.length) H) (tCons (tFld W.K (tVar 0) (Str.ofString "row_word")) tNil))) tNil))
      [some (.ref a), some (.int x), some (.int i), some (.int (st.map V.int).length), some (.int s1)] H Q := by
    intro s1 e1
    refine ⟨_, rfl, _, rfl, _, _, rfl, rfl, _, rfl, _, _, rfl, rfl, _, rfl, ite2 (fun c => ?_) (fun c => ?_)⟩
    · have h1 : i + 1 < st.length := by have := of_decide_eq_true c; rw [List.length_map] at this; omega
      refine ⟨_, rfl, a, _, _, _, _, rfl, l.ob, Z.c_Line, Z.n_row_standing, rfl, _, rfl, _, _, rfl, rfl, ls, _, _, _, rfl, rfl, hsq, hat (i + 1) h1, by show 2 ≤ sizeLine; decide, fun q hq => ?_⟩
      refine k q _ (same_new hq _) ?_
      rw [upd_same, ← e1, hs]
      show _ = some (HO.tup [V.int s1, V.int (if i + 1 < st.length then st.getD (i + 1) 0 else _)])
      rw [if_pos h1]
    · have h1 : ¬ i + 1 < st.length := by have := of_decide_eq_false (Bool.eq_false_iff.mpr c); rw [List.length_map] at this; omega
      refine ⟨_, rfl, a, _, _, _, _, rfl, l.ob, Z.c_Line, Z.n_row_word, rfl, z, rfl, sz_of (by show z.cps.size ≤ _; omega), by show 2 ≤ sizeLine; decide, fun q hq => ?_⟩
      refine k q _ (same_new hq _) ?_
      rw [upd_same, ← e1, hs]
      show _ = some (HO.tup [V.int s1, V.int (if i + 1 < st.length then st.getD (i + 1) 0 else _)])
      rw [if_neg h1]
      rfl
  refine ⟨_, rfl, _, _, rfl, rfl, _, rfl, ite2 (fun c => ?_) (fun c => ?_)⟩
  · have h1 : 0 < i := by have := of_decide_eq_true c; omega
    have hj := hat (i - 1) (by omega)
    rw [show ((i - 1 : Nat) : Int) = (i : Int) - 1 by omega] at hj
    refine ⟨_, rfl, a, _, _, _, _, rfl, l.ob, Z.c_Line, Z.n_row_standing, rfl, _, rfl, _, _, rfl, rfl, ls, _, _, _, rfl, rfl, hsq, hj, R _ ?_⟩
    rw [hs]
    show _ = if i = 0 then (-1 : Int) else st.getD (i - 1) 0
    rw [if_neg (by omega)]
  · have h1 : i = 0 := by have := of_decide_eq_false (Bool.eq_false_iff.mpr c); omega
    refine ⟨_, rfl, R _ ?_⟩
    rw [hs]
    show _ = if i = 0 then (-1 : Int) else st.getD (i - 1) 0
    rw [if_pos h1]
theorem ok_Line_price_of : CalM W 3 "Line" "price_of" ["self", "place"] (spPriceOf W.K) := by
  refine calm_mk (d := d_Line_price_of) Z.t_Line_price_of Z.d_Line_price_of sc_Line_price_of bd_Line_price_of (fun vs H Q E h => ?_) fun f cdv A outer s H vs Q E hr h => ?_
  · obtain ⟨_, _, _, _, _, _, _, _, _, _, _, rfl, _⟩ := h; rfl
  obtain ⟨a, dx, bp, xs, ls, lg, z, rs, st, cs, x, rfl, l, hx, k⟩ := h
  refine ⟨_, pss_cons (ps_asg (pe_lc (own := [("side", 4)]) (g := gName 4) rfl sc_Line_price_of.nd (k_tup W.K (k_calm W.K (ok_Line_sides_of Z) Z.c_Line (hr.mono (by decide)) (pv 0) (pa_cons (pv 1) pa_nil))) (blkOk_by (own := [("side", 4)]) (N := ["self", "place", "ahead", "behind", "side"]) (sc := defScope s_Line_price_of) (by decide +kernel)) (fun _ _ _ _ _ => pg_name (i := 4) sc_Line_price_of.nd rfl (Or.inl rfl)) (fun _ _ _ _ _ => pts_nil) (fun _ _ _ _ _ => (pe_cal (ok_letter_at Z) (hr.mono (by decide)) (pa_cons (k_fld W.K (pv 0)) (pa_cons (pv 4) pa_nil))))) (pg_unl rfl (pgs_cons (pg_name (i := 2) sc_Line_price_of.nd rfl (Or.inl rfl)) (pgs_cons (pg_name (i := 3) sc_Line_price_of.nd rfl (Or.inl rfl)) pgs_nil))))
      (pss_one (ps_ret (pe_cal (ok_price_there Z) (hr.mono (by decide)) (pa_cons (k_fld W.K (pv 0)) (pa_cons (pe_tup (pa_cons (pv 2) (pa_cons (pe_ix ix_str (k_fld W.K (pv 0)) (pv 1) (fun _ _ => rfl)) (pa_cons (pv 3) pa_nil)))) pa_nil))))), ?_⟩
  have hl := l.gw.len
  have hc := l.cl
  refine ⟨_, rfl, a, dx, _, rfl, l.ob, rfl, _, rfl, a, dx, bp, xs, ls, lg, z, rs, st, cs, x, rfl, l, hx, fun q H1 g1 hq => ?_⟩
  have l1 := l.same g1
  refine ⟨q, rfl, ⟨_, SqT.of hq⟩, fun D hD => ?_⟩
  refine lcF_tup [(sides (z.cps.size : Int) (-1) st x).1, (sides (z.cps.size : Int) (-1) st x).2] (fun _ => true) (fun s => .str (sg (signAt z s))) hD (xs := [.int (sides (z.cps.size : Int) (-1) st x).1, .int (sides (z.cps.size : Int) (-1) st x).2]) (SqT.of hq) rfl (by show 2 ≤ 100000; decide) (fun i y s hy hs H2 R N g2 hR _ => ?_) (fun H2 g2 hD2 => ?_)
  · have e : y = .int s := mapI2 (ns := [(sides (z.cps.size : Int) (-1) st x).1, (sides (z.cps.size : Int) (-1) st x).2]) hy hs
    subst e
    exact ⟨rfl, _, rfl, a, _, _, _, _, rfl, (l1.same g2).ob, Z.c_Line, Z.n_row_word, rfl, _, rfl, z, s, rfl, l.gw, hR rfl H2 (Same.refl H2)⟩
  · have l2 := l1.same g2
    refine ⟨D, _, rfl, SqL.of hD2, rfl, ?_⟩
    refine ⟨_, _, rfl, _, _, rfl, rfl, ?_⟩
    have hr1 := l.rg x hx
    refine ⟨_, rfl, a, _, _, _, _, rfl, l2.ob, Z.c_Line, Z.n_row_book, rfl, _, rfl, _, rfl, a, _, _, _, _, rfl, l2.ob, Z.c_Line, Z.n_row_word, rfl, _, rfl, z, x, _, rfl, rfl, sz_of (by show z.cps.size ≤ _; omega), signAt_in hr1.1 hr1.2, _, rfl, by show 3 ≤ sizeLine; decide, fun t ht => ?_⟩
    refine ⟨bp, xs, rs, t, signAt z (sides (z.cps.size : Int) (-1) st x).1, signAt z x, signAt z (sides (z.cps.size : Int) (-1) st x).2, rfl, l2.bk.mono (same_new ht _).imS, l2.gb, SqT.of upd_same, fun o H3 g3 hm => ?_⟩
    have e : o = prL z rs st x := isMin_uniq hm (minO_is _)
    rw [e]
    exact k H3 (((g1.trans g2).trans (same_new ht _)).trans g3)
theorem ok_Line_strike : CalM W 4 "Line" "strike" ["self", "place"] (spStrike W.K) := by
  refine calm_mk (d := d_Line_strike) Z.t_Line_strike Z.d_Line_strike sc_Line_strike bd_Line_strike (fun vs H Q E h => ?_) fun f cdv A outer s H vs Q E hr h => ?_
  · obtain ⟨_, _, _, _, _, _, _, _, _, _, _, _, rfl, _⟩ := h; rfl
  obtain ⟨a, dx, bp, xs, ls, lg, z, rs, st, cs, x, c, rfl, l, hx, hp, hne, k⟩ := h
  refine ⟨_, pss_cons (ps_expr (k_calm W.K (ok_Line_need_standing Z) Z.c_Line (hr.mono (by decide)) (pv 0) (pa_cons (pv 1) pa_nil)))
      (pss_cons (ps_set (i := 2) sc_Line_strike.nd rfl (Or.inl rfl) (k_calm W.K (ok_Line_price_of Z) Z.c_Line (hr.mono (by decide)) (pv 0) (pa_cons (pv 1) pa_nil)))
      (pss_cons (ps_if (pt_cmpR op_isN (pv 2) pe_non (nomark _)) (pss_one (ps_never)) pss_nil)
      (pss_cons (ps_expr (k_remove W.K (k_fld W.K (pv 0)) (pv 1)))
      (pss_cons (ps_expr (k_append W.K (k_fld W.K (pv 0)) (pe_tup (pa_cons (pv 1) (pa_cons (pv 2) pa_nil)))))
      (pss_one (ps_ret (pv 2))))))), ?_⟩
  have hl := l.gw.len
  have hc := l.cl
  refine ⟨_, rfl, a, dx, _, rfl, l.ob, rfl, _, rfl, a, dx, bp, xs, ls, lg, z, rs, st, cs, x, rfl, l, hx, ?_⟩
  refine ⟨_, rfl, a, dx, _, rfl, l.ob, rfl, _, rfl, a, dx, bp, xs, ls, lg, z, rs, st, cs, x, rfl, l, hx, fun H1 g1 => ?_⟩
  rw [hp]
  refine ⟨_, rfl, rfl, _, rfl, iteF ?_⟩
  have l1 := l.same g1
  obtain ⟨gs, hg1, hg2⟩ := l1.lg
  obtain ⟨j, hj, hjm⟩ := first_at hx
  have hgl : gs.length = cs.length := Paired.length hg2
  refine ⟨_, rfl, a, _, _, _, _, rfl, l1.ob, Z.c_Line, Z.n_row_standing, rfl, .inl ⟨rfl, _, SqL.of l1.ls⟩, _, rfl, ls, st, x, j, rfl, rfl, l1.ls, hj, hjm, ?_⟩
  have hla : a ≠ ls := ne_of l1.ob l1.ls (fun e => by cases e)
  have hga : a ≠ lg := ne_of l1.ob hg1 (fun e => by cases e)
  generalize hH2 : upd H1 ls (.lst ((st.eraseIdx j).map V.int)) = H2
  have b2 : But [ls] H1 H2 := by rw [← hH2]; exact But.put (Same.but (Same.refl H1) _) List.mem_cons_self
  have l2 : H2 a = some (.ins (cLine W.K) dx (lineF z bp ls lg)) := by rw [← hH2, upd_ne hla]; exact l1.ob
  have l2g : H2 lg = some (.lst gs) := by rw [← hH2, upd_ne hne.symm]; exact hg1
  have l2s : H2 ls = some (.lst ((st.eraseIdx j).map V.int)) := by rw [← hH2, upd_same]
  refine ⟨_, rfl, a, _, _, _, _, rfl, l2, Z.c_Line, Z.n_row_gone, rfl, .inl ⟨rfl, _, SqL.of l2g⟩, _, rfl, _, rfl, by show 2 ≤ sizeLine; decide, fun t ht => ?_⟩
  have htl : t ≠ lg := fun e => by rw [e, l2g] at ht; cases ht
  have hts : t ≠ ls := fun e => by rw [e, l2s] at ht; cases ht
  have hta : t ≠ a := fun e => by rw [e, l2] at ht; cases ht
  refine ⟨lg, gs, _, rfl, rfl, (upd_ne htl.symm).trans l2g, sz_lt (by omega), _, rfl, ?_⟩
  have im : Im W.K H1 H2 := by rw [← hH2]; exact im_mut (by rw [l1.ls]; trivial)
  have im2 : Im W.K H2 (upd H2 t (.tup [.int x, .int c])) := (same_new ht _).imS
  have im3 : Im W.K (upd H2 t (.tup [.int x, .int c])) (upd (upd H2 t (.tup [.int x, .int c])) lg (.lst (gs ++ [.ref t]))) := im_mut (by rw [upd_ne htl.symm, l2g]; trivial)
  have imA := (im.trans im2).trans im3
  refine k _ ?_ ⟨l.gw, l.gb, ?_, ?_, ?_, ⟨gs ++ [.ref t], upd_same, ?_⟩, ?_, ?_⟩
  · refine But.put (But.new ?_ ht) (by simp)
    intro b u hb q
    exact b2 b u (fun m => hb (by simp at m; simp [m])) (g1 b u q)
  · rw [upd_ne hga, upd_ne hta.symm]
    exact l2
  · exact l1.bk.mono imA
  · rw [upd_ne hne, upd_ne hts.symm, l2s, erase_at hj hjm]
  · exact paired_snoc (Paired.mapP hg2 fun v c ⟨q, x, h3, h4⟩ => ⟨q, x, h3, imA _ _ h4⟩) ⟨t, x, rfl, im3 _ _ (SqT.of upd_same)⟩
  · exact fun y hy => l.rg y (List.mem_of_mem_erase hy)
  · have e1 := List.length_erase_of_mem hx
    have e2 := List.length_pos_of_mem hx
    rw [List.length_append, e1]
    simp
    omega
theorem ok_Line_standing : CalM W 1 "Line" "standing" ["self"] (spStanding W.K) := by
  refine calm_mk (d := d_Line_standing) Z.t_Line_standing Z.d_Line_standing sc_Line_standing bd_Line_standing (fun vs H Q E h => ?_) fun f cdv A outer s H vs Q E hr h => ?_
  · obtain ⟨_, _, _, _, _, _, _, _, _, _, rfl, _⟩ := h; rfl
  obtain ⟨a, dx, bp, xs, ls, lg, z, rs, st, cs, rfl, l, k⟩ := h
  refine ⟨_, pss_one (ps_ret (pe_callTy (k_tuple_of W.K) (by rfl) Z.m_tuple (by decide +kernel) (pa_cons (k_fld W.K (pv 0)) pa_nil))), ?_⟩
  refine ⟨_, rfl, a, _, _, _, _, rfl, l.ob, Z.c_Line, Z.n_row_standing, rfl, ls, _, rfl, .inl ⟨SqL.of l.ls, fun q hq => k q _ (same_new hq _) upd_same⟩⟩
theorem ok_Line_paid : CalM W 1 "Line" "paid" ["self"] (spPaid W.K) := by
  refine calm_mk (d := d_Line_paid) Z.t_Line_paid Z.d_Line_paid sc_Line_paid bd_Line_paid (fun vs H Q E h => ?_) fun f cdv A outer s H vs Q E hr h => ?_
  · obtain ⟨_, _, _, _, _, _, _, _, _, _, rfl, _⟩ := h; rfl
  obtain ⟨a, dx, bp, xs, ls, lg, z, rs, st, cs, rfl, l, k⟩ := h
  refine ⟨_, pss_one (ps_ret (pe_callB (k_sum W.K) (by rfl) Z.m_sum (by decide +kernel) (pa_cons (pe_lc (own := [("place", 1), ("cost", 2)]) (g := gTup W.K 2 (gCons (gName 1) (gCons (gName 2) gNil))) rfl sc_Line_paid.nd (k_list W.K (k_fld W.K (pv 0))) (blkOk_by (own := [("place", 1), ("cost", 2)]) (N := ["self", "place", "cost"]) (sc := defScope s_Line_paid) (by decide +kernel)) (fun _ _ _ _ _ => pg_tup rfl (pgs_cons (pg_name (i := 1) sc_Line_paid.nd rfl (Or.inl rfl)) (pgs_cons (pg_name (i := 2) sc_Line_paid.nd rfl (Or.inl rfl)) pgs_nil))) (fun _ _ _ _ _ => pts_nil) (fun _ _ _ _ _ => (pv 2))) pa_nil))), ?_⟩
  have hc := l.cl
  obtain ⟨gs, hg1, hg2⟩ := l.lg
  refine ⟨_, rfl, a, _, _, _, _, rfl, l.ob, Z.c_Line, Z.n_row_gone, rfl, lg, rfl, ⟨gs, SqL.of hg1⟩, fun D hD => ?_⟩
  refine lcF_list cs (fun _ => true) (fun c => .int c) hD (SqL.of hg1) (Paired.length hg2) (by omega) (fun i y c hy hc2 H2 R N g2 hR _ => ?_) (fun H2 g2 hD2 => ?_)
  · obtain ⟨c', hc', q, x, e, hq⟩ := Paired.at hg2 hy
    rw [hc2] at hc'
    cases hc'
    subst e
    refine ⟨q, _, rfl, g2.tS hq, rfl, _, _, rfl, _, _, rfl, rfl, rfl, _, rfl, hR rfl H2 (Same.refl H2)⟩
  · rw [filter_tt] at hD2
    exact ⟨D, cs, rfl, SqL.of hD2, k H2 g2⟩
end
/-! ### a run -/
section
variable {X : Cx} {W : Wd} (Z : Hd W) {e e2 e3 : Expr} {t3 : TE} {t : TA} {p pos k1 : Pos}
include Z
theorem pe_Line (hr : Room 6 X.A) (ha : PA X [e, e2] t) (hb : PE X e3 t3) (hg : Gl X "Line" := by rfl) (he : starEach (e :: [e2]) X.env = (false, eval e X.env) :: starEach [e2] X.env := by rfl)
    (he2 : starEach [e2] X.env = (false, eval e2 X.env) :: starEach [] X.env := by rfl) (hW : Wof X = W := by rfl) :
    PE X (.Call (.Name "Line" p) [e, e2] [⟨some "ring", e3, k1⟩] pos) (tMakeK (He.ga W.K "Line") 2 1 (spLineInit W.K) (fun vs zs => vs ++ ([] ++ zs)) E0 t (tCons t3 tNil)) := by
  subst hW
  obtain ⟨f, fd, M, b, F, D⟩ := fn_Line_init Z
  obtain ⟨mv, hk⟩ := kb_Line D
  exact pe_makeK M F hr hg b hk pass0 ha (pk_cons hb pk_nil) rfl rfl (by decide) he (by rw [he, he2]; rfl)
end
def spGoneAlong (K : PySem.W.Frag) : Sp := fun vs H Q _ => ∃ (bp op : Addr) (xs : List V) (z : Str) (rs : List Rule) (ns st1 : List Int) (c : Int), vs = [.str z, .ref bp, .ref op, .bl false] ∧ GoodW z ∧ GoodB rs ∧ BookAt K H bp xs rs ∧
  SqT K H op (ns.map V.int) ∧ ns.Nodup ∧ (∀ x ∈ ns, 0 ≤ x ∧ x < (z.cps.size : Int)) ∧ runTo (pr z rs) (z.cps.size : Int) (upTo z.cps.size) ns = some (st1, c) ∧
  ∀ a dx ls lg cs H', Same H H' → LineAt K H' a dx bp xs ls lg z rs st1 cs → cs.length = ns.length → cs.sum = c → Q (.ref a) H'
def spRun (K : PySem.W.Frag) : Sp := fun vs H Q _ => ∃ (bp op : Addr) (xs : List V) (z : Str) (rs : List Rule) (ns st1 : List Int) (c : Int), vs = [.str z, .ref bp, .ref op, .bl false] ∧ GoodW z ∧ GoodB rs ∧ BookAt K H bp xs rs ∧
  SqT K H op (ns.map V.int) ∧ ns.Nodup ∧ (∀ x ∈ ns, 0 ≤ x ∧ x < (z.cps.size : Int)) ∧ runTo (pr z rs) (z.cps.size : Int) (upTo z.cps.size) ns = some (st1, c) ∧
  ∀ q r H', Same H H' → H' q = some (.tup (st1.map V.int)) → H' r = some (.tup [.ref q, .int c]) → Q (.ref r) H'
theorem runTo_cons {pr : Pr} {n : Int} {st st1 o : List Int} {x c : Int} (h : runTo pr n st (x :: o) = some (st1, c)) :
    x ∈ st ∧ ∃ c1, pr (sides n (-1) st x).1 x (sides n (-1) st x).2 = some c1 ∧ runTo pr n (st.erase x) o = some (st1, c - c1) := by
  unfold runTo at h
  by_cases hx : x ∈ st
  · rw [if_pos hx] at h
    refine ⟨hx, ?_⟩
    cases hp : pr (sides n (-1) st x).1 x (sides n (-1) st x).2 with
    | none => rw [hp] at h; cases h
    | some c1 =>
      rw [hp] at h
      cases hq : runTo pr n (st.erase x) o with
      | none => simp only [hq] at h; cases h
      | some r =>
        simp only [hq, Option.map_some] at h
        cases h
        refine ⟨c1, rfl, ?_⟩
        show some r = some (r.1, c1 + r.2 - c1)
        rw [show c1 + r.2 - c1 = r.2 by omega]
  · rw [if_neg hx] at h
    cases h
section
variable {W : Wd} (Z : Hd W)
include Z
theorem ok_gone_along : Cal W 7 "gone_along" ["word", "book", "order", "ring"] (spGoneAlong W.K) := by
  refine cal_mk (d := d_gone_along) Z.g_gone_along Z.d_gone_along sc_gone_along bd_gone_along (fun vs H Q E h => ?_) fun f cdv A outer s H vs Q E hr h => ?_
  · obtain ⟨_, _, _, _, _, _, _, _, rfl, _⟩ := h; rfl
  obtain ⟨bp, op, xs, z, rs, ns, st1, c, rfl, hz, hg, hb, hop, hn, hr0, hrun, k⟩ := h
  refine ⟨_, pss_cons (ps_set (i := 4) sc_gone_along.nd rfl (Or.inl rfl) (pe_Line Z (hr.mono (by decide)) (pa_cons (pv 0) (pa_cons (pv 1) pa_nil)) (pv 3)))
      (pss_cons (ps_expr (pe_cal (ok_need_order Z) (hr.mono (by decide)) (pa_cons (pv 0) (pa_cons (pv 2) pa_nil))))
      (pss_cons (ps_for PassesOwn.never rfl (k_tup W.K (pv 2)) (pg_name (i := 5) sc_gone_along.nd rfl (Or.inl rfl)) (pss_cons (ps_if (pt_cmpR op_isN (k_calm W.K (ok_Line_price_of Z) Z.c_Line (hr.mono (by decide)) (pv 4) (pa_cons (pv 5) pa_nil)) pe_non (nomark _)) (pss_one (ps_break)) pss_nil)
      (pss_one (ps_expr (k_calm W.K (ok_Line_strike Z) Z.c_Line (hr.mono (by decide)) (pv 4) (pa_cons (pv 5) pa_nil))))))
      (pss_one (ps_ret (pv 4))))), ?_⟩
  refine ⟨_, rfl, _, rfl, _, rfl, rfl, rfl, fun a dx ha hdx hne => ?_⟩
  have g0 : Same H (upd (upd H dx (.own a)) a (.ins (He.ga W.K "Line") dx [])) := (same_new hdx _).trans (same_new (by rw [upd_ne hne.symm]; exact ha) _)
  refine ⟨a, dx, bp, xs, z, rs, rfl, upd_same, hz, hg, hb.mono g0.imS, fun ls lg H1 b1 e1 e2 e3 hls hlg hll => ⟨rfl, ?_⟩⟩
  have hl := hz.len
  have n0 : ∀ {b : Addr}, upd (upd H dx (.own a)) a (.ins (He.ga W.K "Line") dx []) b = none → H b = none := fun {b} h => by
    cases q : H b with
    | none => rfl
    | some o => rw [g0 b o q] at h; cases h
  have gl : Same H H1 := fun b o q => b1 b o (by intro m; simp at m; rw [m, ha] at q; cases q) (g0 b o q)
  have hls0 := n0 hls
  have hlg0 := n0 hlg
  refine ⟨_, rfl, _, rfl, z, op, ns, rfl, hz, gl.tS hop, hn, hr0, fun H2 g2 => ?_⟩
  have L0 : LineAt W.K H1 a dx bp xs ls lg z rs (upTo z.cps.size) [] := ⟨hz, hg, e1, hb.mono gl.imS, e2, ⟨[], e3, .nil⟩, fun y hy => mem_upTo.mp hy, by rw [upTo_len]; simp; exact hl⟩
  have gH2 := gl.trans g2
  refine ⟨_, rfl, op, rfl, ⟨_, gH2.tS hop⟩, for_tup (xs := ns.map V.int) (fun i σ H' => ∃ st cs w, σ = [some (.str z), some (.ref bp), some (.ref op), some (.bl false), some (.ref a), w] ∧ Same H H' ∧ LineAt W.K H' a dx bp xs ls lg z rs st cs ∧ cs.length = i ∧
      runTo (pr z rs) (z.cps.size : Int) st (ns.drop i) = some (st1, c - cs.sum)) ⟨upTo z.cps.size, [], _, rfl, gH2, L0.same g2, rfl, by rw [List.drop_zero, hrun]; simp⟩ (fun i σ H' _ q => ?_) (fun i x σ H' hx q => ?_) (fun σ H' q => ?_)⟩
  · obtain ⟨st, cs, w, _, g, _⟩ := q
    exact g.tS hop
  · obtain ⟨st, cs, w, rfl, g, l, hcl, hrn⟩ := q
    obtain ⟨x, hxn, rfl⟩ := mapI hx
    have hi := (List.getElem?_eq_some_iff.mp hxn).1
    have hdr : ns.drop i = x :: ns.drop (i + 1) := by
      rw [← List.getElem_cons_drop (h := hi), (List.getElem?_eq_some_iff.mp hxn).2]
    rw [hdr] at hrn
    obtain ⟨hxs, c1, hp, hrest⟩ := runTo_cons hrn
    refine ⟨_, rfl, a, dx, _, rfl, l.ob, rfl, _, rfl, a, dx, bp, xs, ls, lg, z, rs, st, cs, x, rfl, l, hxs, fun H3 g3 => ?_⟩
    have hp' : prL z rs st x = some c1 := hp
    rw [hp']
    refine ⟨rfl, _, rfl, iteF ?_⟩
    have l3 := l.same g3
    refine ⟨_, rfl, a, dx, _, rfl, l3.ob, rfl, _, rfl, a, dx, bp, xs, ls, lg, z, rs, st, cs, x, c1, rfl, l3, hxs, hp', hll, fun H4 b4 l4 => ?_⟩
    refine ⟨st.erase x, cs ++ [c1], _, rfl, b4.same (by intro y hy; simp at hy; rcases hy with rfl | rfl <;> assumption) (g.trans g3), l4, by rw [List.length_append, hcl]; rfl, ?_⟩
    rw [hrest, List.sum_append]
    simp
    omega
  · obtain ⟨st, cs, w, rfl, g, l, hcl, hrn⟩ := q
    rw [List.drop_of_length_le (by rw [List.length_map]; exact Nat.le_refl _)] at hrn
    have e : some (st, (0 : Int)) = some (st1, c - cs.sum) := hrn
    have e1 : st = st1 := congrArg Prod.fst (Option.some.inj e)
    have e2 : 0 = c - cs.sum := congrArg Prod.snd (Option.some.inj e)
    subst e1
    exact ⟨_, rfl, k a dx ls lg cs H' g l (by rw [hcl, List.length_map]) (by omega)⟩
theorem ok_run4 : ∃ f fd, W.mg "run" = some (.ref f) ∧ PySem.W.keepIn W.K (.ref f) = true ∧ FnOk W.P W.w W.K W.mg W.base CX0 8 f fd ["word", "book", "order", "ring"] (spRun W.K) ∧
    FunD W.K "run" "run" d_run.params d_run.body d_run.scope [] [("ring", .bl false)] f fd := by
  obtain ⟨fd, F⟩ := Z.d_run
  refine ⟨_, fd, Z.g_run, F.kp, fnk F sc_run (fun vs H Q E h => ?_) (fun f cdv A outer s H vs Q E hr h => ?_), F⟩
  · obtain ⟨_, _, _, _, _, _, _, _, rfl, _⟩ := h; rfl
  obtain ⟨bp, op, xs, z, rs, ns, st1, c, rfl, hz, hg, hb, hop, hn, hr0, hrun, k⟩ := h
  refine ⟨_, pss_cons (ps_set (i := 4) sc_run.nd rfl (Or.inl rfl) (pe_cal (ok_gone_along Z) (hr.mono (by decide)) (pa_cons (pv 0) (pa_cons (pv 1) (pa_cons (pv 2) (pa_cons (pv 3) pa_nil))))))
      (pss_cons (ps_set (i := 5) sc_run.nd rfl (Or.inl rfl) (pe_callB (k_len_seq W.K) (by rfl) Z.m_len (by decide +kernel) (pa_cons (k_fld W.K (pv 4)) pa_nil)))
      (pss_cons (ps_if (pt_cmpR op_lt (pv 5) (pe_callB (k_len_seq W.K) (by rfl) Z.m_len (by decide +kernel) (pa_cons (pv 2) pa_nil)) (nomark _)) (pss_one (ps_never)) pss_nil)
      (pss_one (ps_ret (pe_tup (pa_cons (k_calm0 W.K (ok_Line_standing Z) Z.c_Line (hr.mono (by decide)) (pv 4)) (pa_cons (k_calm0 W.K (ok_Line_paid Z) Z.c_Line (hr.mono (by decide)) (pv 4)) pa_nil))))))), ?_⟩
  refine ⟨_, rfl, _, rfl, _, rfl, _, rfl, bp, op, xs, z, rs, ns, st1, c, rfl, hz, hg, hb, hop, hn, hr0, hrun, fun a dx ls lg cs H1 g1 l hcl hsum => ?_⟩
  obtain ⟨gs, hg1, hg2⟩ := l.lg
  have hgl : gs.length = cs.length := Paired.length hg2
  refine ⟨_, rfl, a, _, _, _, _, rfl, l.ob, Z.c_Line, Z.n_row_gone, rfl, lg, gs, rfl, .inl (SqL.of hg1), ?_⟩
  refine ⟨_, rfl, _, rfl, op, _, rfl, .inr (g1.tS hop), _, _, rfl, rfl, _, rfl, ?_⟩
  rw [decide_eq_false (by rw [List.length_map]; omega)]
  refine iteF ?_
  refine ⟨_, rfl, a, dx, _, rfl, l.ob, rfl, a, dx, bp, xs, ls, lg, z, rs, st1, cs, rfl, l, fun q H2 g2 hq => ?_⟩
  have l2 := l.same g2
  refine ⟨_, rfl, a, dx, _, rfl, l2.ob, rfl, a, dx, bp, xs, ls, lg, z, rs, st1, cs, rfl, l2, fun H3 g3 => ?_⟩
  refine ⟨by show 2 ≤ sizeLine; decide, fun r hr2 => ?_⟩
  rw [hsum] 
  exact k q r _ (((g1.trans g2).trans g3).trans (same_new hr2 _)) (same_new hr2 _ _ _ (g3 _ _ hq)) upd_same
end
end Sl
/-! SlMath1 -/
namespace Sl
/-! ### gaps: what may go last in them -/
section
variable (pr : Pr)
def opnF : Nat → Int → Int → Bool
  | 0, _, _ => false
  | n + 1, p, q => decide (q - p = 1) || (fromTo (p + 1) (q - p - 1).toNat).any fun x => (pr p x q).isSome && (opnF n p x && opnF n x q)
def opn (p q : Int) : Bool := opnF pr (q - p).toNat p q
def roots (p q : Int) : List Int := (fromTo (p + 1) (q - p - 1).toNat).filter fun x => (pr p x q).isSome && (opn pr p x && opn pr x q)
end
theorem any_congr {α : Type} {l : List α} {f g : α → Bool} (h : ∀ x ∈ l, f x = g x) : l.any f = l.any g := by
  induction l with
  | nil => rfl
  | cons a r ih => rw [List.any_cons, List.any_cons, h a List.mem_cons_self, ih fun x hx => h x (List.mem_cons_of_mem _ hx)]
theorem opnF_eq {pr : Pr} : ∀ (n m : Nat) (p q : Int), (q - p).toNat ≤ n → (q - p).toNat ≤ m → opnF pr n p q = opnF pr m p q
  | 0, 0, _, _, _, _ => rfl
  | 0, m + 1, p, q, h, _ => by
    unfold opnF
    rw [decide_eq_false (by omega), show (q - p - 1).toNat = 0 by omega]
    rfl
  | n + 1, 0, p, q, _, h => by
    unfold opnF
    rw [decide_eq_false (by omega), show (q - p - 1).toNat = 0 by omega]
    rfl
  | n + 1, m + 1, p, q, h1, h2 => by
    unfold opnF
    congr 1
    refine any_congr fun x hx => ?_
    have hx := mem_fromTo.mp hx
    rw [opnF_eq n m p x (by omega) (by omega), opnF_eq n m x q (by omega) (by omega)]
theorem any_filter_ne {α : Type} (l : List α) (f : α → Bool) : l.any f = !(l.filter f).isEmpty := by
  induction l with
  | nil => rfl
  | cons a r ih =>
    rw [List.any_cons, List.filter_cons]
    cases h : f a <;> simp [ih]
theorem opn_eq {pr : Pr} (p q : Int) : opn pr p q = (decide (q - p = 1) || !(roots pr p q).isEmpty) := by
  by_cases h : q - p ≤ 0
  · unfold opn roots
    rw [show (q - p).toNat = 0 by omega, show (q - p - 1).toNat = 0 by omega, decide_eq_false (by omega)]
    rfl
  · unfold opn
    obtain ⟨n, hn⟩ : ∃ n, (q - p).toNat = n + 1 := ⟨(q - p).toNat - 1, by omega⟩
    rw [hn]
    unfold opnF
    congr 1
    unfold roots
    rw [← any_filter_ne]
    refine any_congr fun x hx => ?_
    have hx := mem_fromTo.mp hx
    unfold opn
    rw [opnF_eq n (x - p).toNat p x (by omega) (Nat.le_refl _), opnF_eq n (q - x).toNat x q (by omega) (Nat.le_refl _)]
theorem mem_roots {pr : Pr} {p q x : Int} : x ∈ roots pr p q ↔ p < x ∧ x < q ∧ (pr p x q).isSome = true ∧ opn pr p x = true ∧ opn pr x q = true := by
  unfold roots
  rw [List.mem_filter, mem_fromTo, Bool.and_eq_true, Bool.and_eq_true]
  constructor
  · rintro ⟨⟨a, b⟩, c, d, e⟩
    exact ⟨by omega, by omega, c, d, e⟩
  · rintro ⟨a, b, c, d, e⟩
    exact ⟨⟨by omega, by omega⟩, c, d, e⟩
theorem roots_len {pr : Pr} (p q : Int) : (roots pr p q).length ≤ (q - p - 1).toNat := by
  unfold roots
  have := List.length_filter_le (fun x => (pr p x q).isSome && (opn pr p x && opn pr x q)) (fromTo (p + 1) (q - p - 1).toNat)
  rw [fromTo_len] at this
  exact this
end Sl
/-! SlW4 -/
namespace Sl
open PySem PySem.Spec PyProof.Rows L2
/-! ### dicts -/
theorem But.im {K : PySem.W.Frag} {L : List Addr} {H H' : Hp} (b : But L H H') (h : ∀ a ∈ L, Mut (H a)) : Im K H H' := fun a xs s => by
  have k : ∀ o, ¬ Mut (some o) → H a = some o → H' a = some o := fun o n e => b a o (fun m => n (by rw [← e]; exact h a m)) e
  rcases s with (s | ⟨o, s⟩) | s
  · exact .inl (.inl (k _ (fun x => x) s))
  · exact .inl (.inr ⟨o, k _ (fun x => x) s⟩)
  · exact .inr s
theorem keys_put {κ : Type} [DecidableEq κ] {kvs : List (κ × V)} {k : κ} {v : V} (h : (kvs.map (·.1)).Nodup) : ((putK kvs k v).map (·.1)).Nodup ∧ ∀ j ∈ (putK kvs k v).map (·.1), j = k ∨ j ∈ kvs.map (·.1) := by
  unfold putK
  by_cases c : (kvs.any fun kv => decide (kv.1 = k)) = true
  · rw [if_pos c]
    have e : (kvs.map fun kv => if kv.1 = k then (kv.1, v) else kv).map (·.1) = kvs.map (·.1) := by
      rw [List.map_map]
      refine List.map_congr_left fun kv _ => ?_
      by_cases q : kv.1 = k <;> simp [q]
    rw [e]
    exact ⟨h, fun j hj => .inr hj⟩
  · rw [if_neg c, List.map_append]
    constructor
    · refine List.nodup_append.mpr ⟨h, by simp, fun a ha b hb e => c ?_⟩
      simp at hb
      subst hb
      subst e
      obtain ⟨kv, h1, h2⟩ := List.mem_map.mp ha
      exact List.any_eq_true.mpr ⟨kv, h1, decide_eq_true h2⟩
    · intro j hj
      rcases List.mem_append.mp hj with q | q
      · exact .inr q
      · simp at q
        exact .inl q
theorem keys_len {κ : Type} [DecidableEq κ] {kvs : List (κ × V)} (L : List κ) (h : (kvs.map (·.1)).Nodup) (hL : ∀ j ∈ kvs.map (·.1), j ∈ L) : kvs.length ≤ L.length := by
  have := nodup_len h hL
  rwa [List.length_map] at this
/-! ### the rules by letters, the costs met -/
abbrev cFits (K : PySem.W.Frag) : Addr := He.ga K "Fits"
def caseK (A X B : Nat) : List Key := [.inr (sg A), .inr (sg X), .inr (sg B)]
theorem caseK_inj {A X B A' X' B' : Nat} (h : caseK A X B = caseK A' X' B') : A = A' ∧ X = X' ∧ B = B' := by
  unfold caseK at h
  injection h with h1 h
  injection h with h2 h
  injection h with h3 h
  exact ⟨sg_inj.mp (Sum.inr.inj h1), sg_inj.mp (Sum.inr.inj h2), sg_inj.mp (Sum.inr.inj h3)⟩
def caseKeys : List (List Key) := (List.range 123).flatMap fun A => (List.range 123).flatMap fun X => (List.range 123).map fun B => caseK A X B
theorem caseKeys_len : caseKeys.length = 1860867 := by
  unfold caseKeys
  simp only [List.length_flatMap, List.length_map, List.length_range, List.map_const', List.sum_replicate_nat]
theorem mem_caseKeys {A X B : Nat} (h1 : A < 123) (h2 : X < 123) (h3 : B < 123) : caseK A X B ∈ caseKeys :=
  List.mem_flatMap.mpr ⟨A, List.mem_range.mpr h1, List.mem_flatMap.mpr ⟨X, List.mem_range.mpr h2, List.mem_map.mpr ⟨B, List.mem_range.mpr h3, rfl⟩⟩⟩
def Rows3 (K : PySem.W.Frag) (H : Hp) (vs : List V) (rs : List Rule) : Prop := Paired (fun v r => ∃ q, v = V.ref q ∧ SqT K H q [.str (sg r.a), .str (sg r.b), .int r.p]) vs rs
def ofX (rs : List Rule) (X : Nat) : List Rule := rs.filter fun r => decide (r.x = X)
structure RulesBy (K : PySem.W.Frag) (H : Hp) (kv : List (Key × V)) (rs : List Rule) : Prop where
  at_ : ∀ X : Nat, (valV kv (.inr (sg X)) = none ∧ ofX rs X = []) ∨ ∃ l vs, valV kv (.inr (sg X)) = some (.ref l) ∧ H l = some (.lst vs) ∧ Rows3 K H vs (ofX rs X)
structure CostsOk (kv : List (List Key × V)) (rs : List Rule) : Prop where
  nd : (kv.map (·.1)).Nodup
  ks : ∀ j ∈ kv.map (·.1), j ∈ caseKeys
  at_ : ∀ A X B v, valV kv (caseK A X B) = some v → v = optV (minO (prices rs A X B))
theorem CostsOk.len {kv : List (List Key × V)} {rs : List Rule} (h : CostsOk kv rs) : kv.length < sizeLine := by
  have := keys_len caseKeys h.nd h.ks
  rw [caseKeys_len] at this
  exact Nat.lt_of_le_of_lt this (by decide)
structure FitsAt (K : PySem.W.Frag) (H : Hp) (fa rd cd : Addr) (rs : List Rule) : Prop where
  ob : ∃ dx, H fa = some (.ins (cFits K) dx [("own_rules", .ref rd), ("own_costs", .ref cd)])
  rd_ : ∃ kv, H rd = some (.dK kv) ∧ RulesBy K H kv rs
  cd_ : ∃ kv, H cd = some (.dT kv) ∧ CostsOk kv rs
/-- the frame: the addresses in L are dicts with tuples for keys, the costs' not among them -/
theorem FitsAt.but {K : PySem.W.Frag} {H H' : Hp} {fa rd cd : Addr} {rs : List Rule} {L : List Addr} (f : FitsAt K H fa rd cd rs) (b : But L H H') (hL : ∀ a ∈ L, ∃ kv, H a = some (.dT kv)) (hc : cd ∉ L) : FitsAt K H' fa rd cd rs := by
  obtain ⟨dx, h1⟩ := f.ob
  obtain ⟨kv, h2, h3⟩ := f.rd_
  obtain ⟨kv2, h4, h5⟩ := f.cd_
  have im : Im K H H' := b.im fun a ha => by obtain ⟨q, e⟩ := hL a ha; rw [e]; exact True.intro
  have k : ∀ a o, H a = some o → (∀ q, o ≠ .dT q) → H' a = some o := fun a o e n => b a o (fun m => by obtain ⟨q, e'⟩ := hL a m; rw [e'] at e; cases e; exact n _ rfl) e
  refine ⟨⟨dx, k _ _ h1 (by intro q e; cases e)⟩, ⟨kv, k _ _ h2 (by intro q e; cases e), ⟨fun X => ?_⟩⟩, kv2, b _ _ hc h4, h5⟩
  rcases h3.at_ X with h | ⟨l, vs, a1, a2, a3⟩
  · exact .inl h
  · exact .inr ⟨l, vs, a1, k _ _ a2 (by intro q e; cases e), Paired.mapP a3 fun v r ⟨q, e1, e2⟩ => ⟨q, e1, im _ _ e2⟩⟩
theorem FitsAt.same {K : PySem.W.Frag} {H H' : Hp} {fa rd cd : Addr} {rs : List Rule} (f : FitsAt K H fa rd cd rs) (g : Same H H') : FitsAt K H' fa rd cd rs :=
  f.but (g.but []) (fun a h => by cases h) (by simp)
/-- the costs' dict anew -/
theorem FitsAt.costs {K : PySem.W.Frag} {H : Hp} {fa rd cd : Addr} {rs : List Rule} {kv : List (List Key × V)} (f : FitsAt K H fa rd cd rs) (h : CostsOk kv rs) : FitsAt K (upd H cd (.dT kv)) fa rd cd rs := by
  obtain ⟨dx, h1⟩ := f.ob
  obtain ⟨kv1, h2, h3⟩ := f.rd_
  obtain ⟨kv2, h4, h5⟩ := f.cd_
  have im : Im K H (upd H cd (.dT kv)) := im_mut (by rw [h4]; exact True.intro)
  have k : ∀ a o, H a = some o → (∀ q, o ≠ .dT q) → upd H cd (.dT kv) a = some o := fun a o e n => by
    rw [upd_ne (fun (x : a = cd) => by rw [x, h4] at e; cases e; exact n _ rfl)]
    exact e
  refine ⟨⟨dx, k _ _ h1 (by intro q e; cases e)⟩, ⟨kv1, k _ _ h2 (by intro q e; cases e), ⟨fun X => ?_⟩⟩, kv, upd_same, h⟩
  rcases h3.at_ X with h | ⟨l, vs, a1, a2, a3⟩
  · exact .inl h
  · exact .inr ⟨l, vs, a1, k _ _ a2 (by intro q e; cases e), Paired.mapP a3 fun v r ⟨q, e1, e2⟩ => ⟨q, e1, im _ _ e2⟩⟩
theorem But.mut {a : Addr} {L : List Addr} {H H' : Hp} {o : HO} (b : But L H H') (h : H a = none) : But L H (upd H' a o) := fun c u hc q => by
  rw [upd_ne (fun (e : c = a) => by rw [e, h] at q; cases q)]
  exact b c u hc q
/-- the rules' dict under way -/
structure FI (K : PySem.W.Frag) (H0 H : Hp) (a dx rd cd : Addr) (kv : List (Key × V)) (rs : List Rule) : Prop where
  bt : But [a] H0 H
  ob : H a = some (.ins (cFits K) dx [("own_rules", .ref rd), ("own_costs", .ref cd)])
  rdk : H rd = some (.dK kv)
  cdk : H cd = some (.dT [])
  rf : H0 rd = none
  cf : H0 cd = none
  at_ : ∀ X : Nat, (valV kv (.inr (sg X)) = none ∧ ofX rs X = []) ∨ ∃ l vs, valV kv (.inr (sg X)) = some (.ref l) ∧ H0 l = none ∧ H l = some (.lst vs) ∧ Rows3 K H vs (ofX rs X)
  inj : ∀ (X Y : Nat) l, valV kv (.inr (sg X)) = some (.ref l) → valV kv (.inr (sg Y)) = some (.ref l) → X = Y
theorem ofX_snoc (rs : List Rule) (r : Rule) (X : Nat) : ofX (rs ++ [r]) X = if r.x = X then ofX rs X ++ [r] else ofX rs X := by
  unfold ofX
  rw [List.filter_append]
  by_cases h : r.x = X <;> simp [h]
theorem Rows3.mono {K : PySem.W.Frag} {H H' : Hp} {vs : List V} {rs : List Rule} (h : Rows3 K H vs rs) (e : Im K H H') : Rows3 K H' vs rs := Paired.mapP h fun v r ⟨q, e1, e2⟩ => ⟨q, e1, e _ _ e2⟩
theorem FI.there {K : PySem.W.Frag} {H0 H : Hp} {a dx rd cd : Addr} {kv : List (Key × V)} {rs : List Rule} (f : FI K H0 H a dx rd cd kv rs) {r : Rule} {l t : Addr} {vs : List V}
    (h1 : valV kv (.inr (sg r.x)) = some (.ref l)) (h2 : H l = some (.lst vs)) (ht : H t = none) :
    FI K H0 (upd (upd H t (.tup [.str (sg r.a), .str (sg r.b), .int r.p])) l (.lst (vs ++ [.ref t]))) a dx rd cd kv (rs ++ [r]) := by
  have tn : ∀ {b o}, H b = some o → b ≠ t := fun e x => by rw [x, ht] at e; cases e
  have im : Im K H (upd (upd H t (.tup [.str (sg r.a), .str (sg r.b), .int r.p])) l (.lst (vs ++ [.ref t]))) := (same_new ht _).imS.trans (im_mut (by rw [upd_ne (tn h2), h2]; exact True.intro))
  have k : ∀ b o, H b = some o → b ≠ l → upd (upd H t (.tup [.str (sg r.a), .str (sg r.b), .int r.p])) l (.lst (vs ++ [.ref t])) b = some o := fun b o e n => by rw [upd_ne n, upd_ne (tn e)]; exact e
  have lf : H0 l = none := by
    rcases f.at_ r.x with ⟨h, _⟩ | ⟨l', _, h, h', _⟩
    · rw [h1] at h; cases h
    · rw [h1] at h; cases h; exact h'
  refine ⟨(f.bt.new ht).mut lf, k _ _ f.ob (fun e => by rw [← e, f.ob] at h2; cases h2), k _ _ f.rdk (fun e => by rw [← e, f.rdk] at h2; cases h2), k _ _ f.cdk (fun e => by rw [← e, f.cdk] at h2; cases h2), f.rf, f.cf, fun X => ?_, f.inj⟩
  · rw [ofX_snoc]
    by_cases c : r.x = X
    · rw [if_pos c, ← c]
      rcases f.at_ r.x with ⟨h, _⟩ | ⟨l', vs', h, h', h3, h4⟩
      · rw [h1] at h; cases h
      · rw [h1] at h
        cases h
        rw [h2] at h3
        cases h3
        refine .inr ⟨l, _, h1, lf, upd_same, paired_snoc (Rows3.mono h4 im) ⟨t, rfl, ?_⟩⟩
        exact im_mut (by rw [upd_ne (tn h2), h2]; exact True.intro) _ _ (SqT.of upd_same)
    · rw [if_neg c]
      rcases f.at_ X with h | ⟨l', vs', h, h', h3, h4⟩
      · exact .inl h
      · refine .inr ⟨l', vs', h, h', k _ _ h3 (fun e => c (f.inj _ _ l' (by rw [e]; exact h1) h)), Rows3.mono h4 im⟩
theorem FI.new {K : PySem.W.Frag} {H0 H : Hp} {a dx rd cd : Addr} {kv : List (Key × V)} {rs : List Rule} (f : FI K H0 H a dx rd cd kv rs) {l : Addr} {o : HO} (hl : H l = none) : FI K H0 (upd H l o) a dx rd cd kv rs := by
  have g := same_new hl o
  refine ⟨f.bt.new hl, g _ _ f.ob, g _ _ f.rdk, g _ _ f.cdk, f.rf, f.cf, fun X => ?_, f.inj⟩
  rcases f.at_ X with h | ⟨l', vs', h, h', h3, h4⟩
  · exact .inl h
  · exact .inr ⟨l', vs', h, h', g _ _ h3, Rows3.mono h4 g.imS⟩
theorem FI.fresh {K : PySem.W.Frag} {H0 H : Hp} {a dx rd cd : Addr} {kv : List (Key × V)} {rs : List Rule} (f : FI K H0 H a dx rd cd kv rs) {X : Nat} {l : Addr}
    (h1 : valV kv (.inr (sg X)) = none) (hl : H l = none) (h0 : ofX rs X = []) : FI K H0 (upd (upd H l (.lst [])) rd (.dK (putK kv (.inr (sg X)) (.ref l)))) a dx rd cd (putK kv (.inr (sg X)) (.ref l)) rs := by
  generalize hH2 : upd (upd H l (.lst [])) rd (.dK (putK kv (.inr (sg X)) (.ref l))) = H2
  have ln : ∀ {b o}, H b = some o → b ≠ l := fun e x => by rw [x, hl] at e; cases e
  have lr : l ≠ rd := fun e => by rw [e, f.rdk] at hl; cases hl
  have im : Im K H H2 := by rw [← hH2]; exact (same_new hl _).imS.trans (im_mut (by rw [upd_ne (ln f.rdk), f.rdk]; exact True.intro))
  have k : ∀ b o, H b = some o → b ≠ rd → H2 b = some o := fun b o e n => by
    rw [← hH2, upd_ne n, upd_ne (ln e)]; exact e
  have hl0 : H0 l = none := by
    cases q : H0 l with
    | none => rfl
    | some u =>
      have : l ≠ a := fun e => by rw [e, f.ob] at hl; cases hl
      rw [f.bt l u (by simpa using this) q] at hl
      cases hl
  have hl2 : H2 l = some (.lst []) := by rw [← hH2, upd_ne lr, upd_same]
  refine ⟨by rw [← hH2]; exact (f.bt.new hl).mut f.rf, k _ _ f.ob (fun e => by have := f.ob; rw [e, f.rdk] at this; cases this), by rw [← hH2, upd_same], k _ _ f.cdk (fun e => by have := f.cdk; rw [e, f.rdk] at this; cases this), f.rf, f.cf, fun Y => ?_, fun X' Y l' a1 a2 => ?_⟩
  · rw [valV_put]
    by_cases c : (Sum.inr (sg Y) : Key) = .inr (sg X)
    · have c' : Y = X := sg_inj.mp (Sum.inr.inj c)
      rw [if_pos c, c']
      exact .inr ⟨l, [], rfl, hl0, hl2, by rw [h0]; exact .nil⟩
    · rw [if_neg c]
      rcases f.at_ Y with h | ⟨l', vs', h, h', h3, h4⟩
      · exact .inl h
      · exact .inr ⟨l', vs', h, h', k _ _ h3 (fun e => by rw [e, f.rdk] at h3; cases h3), Rows3.mono h4 im⟩
  · rw [valV_put] at a1 a2
    have nl : ∀ Z : Nat, valV kv (.inr (sg Z)) ≠ some (.ref l) := fun Z e => by
      rcases f.at_ Z with ⟨h, _⟩ | ⟨l'', vs', h, h', h3, h4⟩
      · rw [h] at e; cases e
      · rw [h] at e; cases e; rw [hl] at h3; cases h3
    by_cases c : (Sum.inr (sg X') : Key) = .inr (sg X)
    · rw [if_pos c] at a1
      cases a1
      by_cases c2 : (Sum.inr (sg Y) : Key) = .inr (sg X)
      · exact (sg_inj.mp (Sum.inr.inj c)).trans (sg_inj.mp (Sum.inr.inj c2)).symm
      · rw [if_neg c2] at a2
        exact absurd a2 (nl Y)
    · rw [if_neg c] at a1
      by_cases c2 : (Sum.inr (sg Y) : Key) = .inr (sg X)
      · rw [if_pos c2] at a2
        cases a2
        exact absurd a1 (nl X')
      · rw [if_neg c2] at a2
        exact f.inj _ _ l' a1 a2
theorem sc_Fits_init : FnScope ["self", "book", "ahead", "letter", "behind", "cost"] ["self", "book"] (defScope s_Fits_init) := ⟨rfl, rfl, rfl, by decide +kernel, rfl, by decide +kernel, by decide +kernel⟩
theorem bd_Fits_init : Bnd d_Fits_init ["self", "book"] := fun _ _ _ _ _ _ us hl => match us, hl with | [_, _], _ => rfl
theorem sc_Fits_cost : FnScope ["self", "ahead", "letter", "behind", "case", "some", "found", "row"] ["self", "ahead", "letter", "behind"] (defScope s_Fits_cost) := ⟨rfl, rfl, rfl, by decide +kernel, rfl, by decide +kernel, by decide +kernel⟩
theorem bd_Fits_cost : Bnd d_Fits_cost ["self", "ahead", "letter", "behind"] := fun _ _ _ _ _ _ us hl => match us, hl with | [_, _, _, _], _ => rfl
def spFitsInit (K : PySem.W.Frag) : Sp := fun vs H Q _ => ∃ (a dx bp : Addr) (xs : List V) (rs : List Rule), vs = [.ref a, .ref bp] ∧ H a = some (.ins (cFits K) dx []) ∧ GoodB rs ∧ BookAt K H bp xs rs ∧
  ∀ rd cd H', But [a] H H' → FitsAt K H' a rd cd rs → H cd = none → Q .non H'
def spFitsCost (K : PySem.W.Frag) : Sp := fun vs H Q _ => ∃ (fa rd cd : Addr) (rs : List Rule) (A X B : Nat), vs = [.ref fa, .str (sg A), .str (sg X), .str (sg B)] ∧ FitsAt K H fa rd cd rs ∧ GoodB rs ∧ A < 123 ∧ X < 123 ∧ B < 123 ∧
  ∀ H', But [cd] H H' → FitsAt K H' fa rd cd rs → Q (optV (minO (prices rs A X B))) H'
section
variable {W : Wd} (Z : Hd W)
include Z
theorem ok_Fits_init : CalI W 1 "Fits" ["self", "book"] (spFitsInit W.K) := by
  refine cali_mk (d := d_Fits_init) Z.mk_Fits Z.g_Fits Z.d_Fits_init sc_Fits_init bd_Fits_init (fun vs H Q E h => ?_) fun f cdv A outer s H vs Q E hr h => ?_
  · obtain ⟨_, _, _, _, _, rfl, _⟩ := h; rfl
  obtain ⟨a, dx, bp, xs, rs, rfl, ha, hg, hb, k⟩ := h
  refine ⟨_, pss_cons (ps_fld (pv 0) pe_dnewK (by rfl))
      (pss_cons (ps_fld (pv 0) pe_dnewT (by rfl))
      (pss_one (ps_for PassesOwn.never rfl (k_tup W.K (pv 1)) (pg_tup rfl (pgs_cons (pg_name (i := 2) sc_Fits_init.nd rfl (Or.inl rfl)) (pgs_cons (pg_name (i := 3) sc_Fits_init.nd rfl (Or.inl rfl)) (pgs_cons (pg_name (i := 4) sc_Fits_init.nd rfl (Or.inl rfl)) (pgs_cons (pg_name (i := 5) sc_Fits_init.nd rfl (Or.inl rfl)) pgs_nil))))) (pss_one (ps_expr (k_append W.K (pe_dsetd (k_fld W.K (pv 0)) (pv 3) (pe_lst pa_nil) ⟨by rfl, by rfl, by rfl, by rfl⟩) (pe_tup (pa_cons (pv 2) (pa_cons (pv 4) (pa_cons (pv 5) pa_nil)))))))))), ?_⟩
  have h80 := hg.len
  have hlen : xs.length = rs.length := Paired.length hb.rs
  refine fun rd hrd => ⟨_, rfl, a, _, dx, _, rfl, (upd_ne (ne_of_none ha hrd)).trans ha, Z.c_Fits, Z.n_own_rules, by show 0 < 1000; decide, ?_⟩
  have rda : rd ≠ a := fun e => by rw [e, ha] at hrd; cases hrd
  generalize hH1 : upd (upd H rd (.dK [])) a (.ins (cFits W.K) dx (putF "own_rules" (.ref rd) [])) = H1
  have e1 : H1 rd = some (.dK []) := by rw [← hH1, upd_ne rda, upd_same]
  have e2 : H1 a = some (.ins (cFits W.K) dx [("own_rules", .ref rd)]) := by rw [← hH1, upd_same]; rfl
  have b1 : But [a] H H1 := by rw [← hH1]; exact ((Same.but (Same.refl H) [a]).new hrd).put List.mem_cons_self
  refine fun cd hcd => ⟨_, rfl, a, _, dx, _, rfl, (upd_ne (ne_of_none e2 hcd)).trans e2, Z.c_Fits, Z.n_own_costs, by show 1 < 1000; decide, ?_⟩
  have cda : cd ≠ a := fun e => by rw [e, e2] at hcd; cases hcd
  have cdr : cd ≠ rd := fun e => by rw [e, e1] at hcd; cases hcd
  have cd0 : H cd = none := But.free b1 (by simpa using cda) hcd
  have F0 : FI W.K H (upd (upd H1 cd (.dT [])) a (.ins (cFits W.K) dx (putF "own_costs" (.ref cd) [("own_rules", .ref rd)]))) a dx rd cd [] [] :=
    ⟨(b1.new hcd).put List.mem_cons_self, upd_same, by rw [upd_ne rda, upd_ne cdr.symm]; exact e1, by rw [upd_ne cda, upd_same], hrd, cd0, fun X => .inl ⟨rfl, rfl⟩, fun X Y l h => by cases h⟩
  have im0 : ∀ {H' kv rs'}, FI W.K H H' a dx rd cd kv rs' → Im W.K H H' := fun f => f.bt.im fun b hb => by simp at hb; rw [hb, ha]; exact True.intro
  refine ⟨_, rfl, bp, rfl, ⟨xs, im0 F0 _ _ hb.sq⟩, for_tup (xs := xs) (fun i σ H' => ∃ w1 w2 w3 w4 kv, σ = [some (.ref a), some (.ref bp), w1, w2, w3, w4] ∧ FI W.K H H' a dx rd cd kv (rs.take i) ∧ kv.length ≤ i) ⟨_, _, _, _, [], rfl, F0, Nat.le_refl _⟩ (fun i σ H' _ q => ?_) (fun i x σ H' hx q => ?_) (fun σ H' q => ?_)⟩
  · obtain ⟨_, _, _, _, kv, _, f, _⟩ := q
    exact im0 f _ _ hb.sq
  · obtain ⟨_, _, _, _, kv, rfl, f, hk0⟩ := q
    obtain ⟨r, hr, rq, rfl, hrq⟩ := Paired.at hb.rs hx
    have hrq' := im0 f _ _ hrq
    have hi := (List.getElem?_eq_some_iff.mp hr).1
    have hk : kv.length ≤ 80 := by omega
    refine ⟨rq, _, rfl, hrq', rfl, _, _, rfl, _, _, rfl, _, _, rfl, _, _, rfl, rfl, ?_⟩
    refine ⟨_, rfl, a, _, _, _, _, rfl, f.ob, Z.c_Fits, Z.n_own_rules, rfl, rd, rfl, .inl ⟨kv, .inl f.rdk⟩, _, rfl, by show 0 ≤ sizeLine; decide, fun l hl => ?_⟩
    have ln : ∀ {b o}, H' b = some o → b ≠ l := fun e x => by rw [x, hl] at e; cases e
    refine ⟨kv, .inr (sg r.x), (upd_ne (ln f.rdk)).trans f.rdk, rfl, sz_lt (by omega), fun v hv => ?_, fun hn => ?_⟩
    · rcases f.at_ r.x with ⟨h, _⟩ | ⟨l', vs, h, h', h3, h4⟩
      · rw [hv] at h; cases h
      rw [hv] at h
      cases h
      have h3' := (upd_ne (o := .lst []) (ln h3)).trans h3
      have hvl : vs.length ≤ 80 := by
        have e1 := Paired.length h4
        have e2 := List.length_filter_le (fun r' => decide (r'.x = r.x)) (rs.take i)
        unfold ofX at e1
        rw [List.length_take] at e2
        omega
      refine ⟨.inl ⟨rfl, _, SqL.of h3'⟩, _, rfl, _, rfl, _, rfl, by show 3 ≤ sizeLine; decide, fun t ht => ?_⟩
      have f2 := (f.new (o := .lst []) hl).there hv h3' ht
      rw [← take_snoc hr] at f2
      exact ⟨l', vs, _, rfl, rfl, (upd_ne (fun e => by rw [e, ht] at h3'; cases h3')).trans h3', sz_lt (by omega), _, _, _, _, kv, rfl, f2, by omega⟩
    · have h0 : ofX (rs.take i) r.x = [] := by
        rcases f.at_ r.x with h | ⟨l', vs, h, _⟩
        · exact h.2
        · rw [hn] at h; cases h
      have f1 := f.fresh hn hl h0
      generalize upd (upd H' l (.lst [])) rd (.dK (putK kv (.inr (sg r.x)) (.ref l))) = H2 at f1
      have hv : valV (putK kv (.inr (sg r.x)) (.ref l)) (.inr (sg r.x)) = some (.ref l) := by rw [valV_put, if_pos rfl]
      obtain ⟨vs, hl2, hvs⟩ : ∃ vs, H2 l = some (.lst vs) ∧ vs.length = 0 := by
        rcases f1.at_ r.x with ⟨h, _⟩ | ⟨l', vs, h, _, h3, h4⟩
        · rw [hv] at h; cases h
        · rw [hv] at h; cases h
          exact ⟨vs, h3, by rw [Paired.length h4, h0]; rfl⟩
      refine ⟨.inl ⟨rfl, _, SqL.of hl2⟩, _, rfl, _, rfl, _, rfl, by show 3 ≤ sizeLine; decide, fun t ht => ?_⟩
      have f2 := f1.there hv hl2 ht
      rw [← take_snoc hr] at f2
      have hpl := length_putK kv (.inr (sg r.x)) (V.ref l)
      exact ⟨l, vs, _, rfl, rfl, (upd_ne (fun e => by rw [e, ht] at hl2; cases hl2)).trans hl2, sz_lt (by omega), _, _, _, _, _, rfl, f2, by omega⟩
  · obtain ⟨_, _, _, _, kv, rfl, f, _⟩ := q
    rw [hlen, List.take_length] at f
    refine k rd cd H' f.bt ⟨⟨dx, f.ob⟩, ⟨kv, f.rdk, ⟨fun X => ?_⟩⟩, [], f.cdk, ⟨.nil, by simp, fun A X B v h => by cases h⟩⟩ cd0
    rcases f.at_ X with h | ⟨l, vs, h1, _, h2, h3⟩
    · exact .inl h
    · exact .inr ⟨l, vs, h1, h2, h3⟩
theorem ok_Fits_cost : CalM W 1 "Fits" "cost" ["self", "ahead", "letter", "behind"] (spFitsCost W.K) := by
  refine calm_mk (d := d_Fits_cost) Z.t_Fits_cost Z.d_Fits_cost sc_Fits_cost bd_Fits_cost (fun vs H Q E h => ?_) fun f cdv A outer s H vs Q E hr h => ?_
  · obtain ⟨_, _, _, _, _, _, _, rfl, _⟩ := h; rfl
  obtain ⟨fa, rd, cd, rs, A, X, B, rfl, hf, hg, hA, hX, hB, k⟩ := h
  refine ⟨_, pss_cons (ps_set (i := 4) sc_Fits_cost.nd rfl (Or.inl rfl) (pe_tup (pa_cons (pv 1) (pa_cons (pv 2) (pa_cons (pv 3) pa_nil)))))
      (pss_cons (ps_if (pt_cmp (pc_dnotin (hu_of hr) (pv 4) (k_fld W.K (pv 0)))) (pss_cons (ps_set (i := 5) sc_Fits_cost.nd rfl (Or.inl rfl) (pe_dget2 (hu_of hr) (k_fld W.K (pv 0)) (pv 2) (pe_lst pa_nil) ⟨by rfl, by rfl, by rfl, by rfl⟩))
      (pss_cons (ps_setLc (i := 6) (own := [("row", 7)]) (g := gName 7) rfl sc_Fits_cost.nd rfl rfl (sw_true rfl rfl rfl (by decide +kernel)) (k_list W.K (pv 5)) (blkOk_by (own := [("row", 7)]) (N := ["self", "ahead", "letter", "behind", "case", "some", "found", "row"]) (sc := defScope s_Fits_cost) (by decide +kernel)) (fun _ _ _ _ _ => pg_name (i := 7) sc_Fits_cost.nd rfl (Or.inl rfl)) (fun _ _ _ _ _ => pts_two (pt_cmpR (k_op_in_seq W.K) (pe_ix (k_ix_tup W.K) (pv 7) pe_int (fun _ _ => rfl)) (pe_tup (pa_cons (pv 1) (pa_cons pe_str pa_nil))) (by rfl)) (pt_cmpR (k_op_in_seq W.K) (pe_ix (k_ix_tup W.K) (pv 7) pe_int (fun _ _ => rfl)) (pe_tup (pa_cons (pv 3) (pa_cons pe_str pa_nil))) (by rfl))) (fun _ _ _ _ _ => (pe_ix (k_ix_tup W.K) (pv 7) pe_int (fun _ _ => rfl))))
      (pss_one (ps_dput (hu_of hr) (k_fld W.K (pv 0)) (pv 4) (pe_callBK (k_minD W.K) (by rfl) Z.m_min (by decide +kernel) (pa_cons (pv 6) pa_nil) (pk_cons pe_non pk_nil)) (by rfl))))) pss_nil)
      (pss_one (ps_ret (pe_dget (hu_of hr) (k_fld W.K (pv 0)) (pv 4) (fun _ _ => rfl))))), ?_⟩
  have h80 := hg.len
  obtain ⟨dx, ho⟩ := hf.ob
  obtain ⟨kv, hrd, hrb⟩ := hf.rd_
  obtain ⟨kv2, hcd, hco⟩ := hf.cd_
  refine ⟨_, rfl, _, rfl, _, rfl, by show 3 ≤ sizeLine; decide, fun t ht => ?_⟩
  have g1 : Same H (upd H t (.tup [.str (sg A), .str (sg X), .str (sg B)])) := same_new ht _
  have htt : upd H t (.tup [.str (sg A), .str (sg X), .str (sg B)]) t = some (.tup ((caseK A X B).map kV)) := upd_same
  generalize upd H t (.tup [.str (sg A), .str (sg X), .str (sg B)]) = H1 at g1 htt
  refine ⟨_, rfl, _, rfl, fa, _, _, _, _, rfl, g1 _ _ ho, Z.c_Fits, Z.n_own_costs, rfl, cd, _, rfl, DGet.t (g1 _ _ hcd) htt, _, rfl, ?_⟩
  cases hv : valV kv2 (caseK A X B) with
  | some v =>
    refine iteF ⟨_, rfl, fa, _, _, _, _, rfl, g1 _ _ ho, Z.c_Fits, Z.n_own_costs, rfl, _, rfl, cd, v, rfl, ?_, ?_⟩
    · rw [← hv]
      exact DGet.t (g1 _ _ hcd) htt
    · rw [hco.at_ A X B v hv]
      exact k H1 (g1.but _) (hf.same g1)
  | none =>
    refine iteT ⟨_, rfl, fa, _, _, _, _, rfl, g1 _ _ ho, Z.c_Fits, Z.n_own_rules, rfl, rd, rfl, .inl ⟨kv, .inl (g1 _ _ hrd)⟩, _, rfl, by show 0 ≤ sizeLine; decide, fun l0 hl0 => ?_⟩
    have g2 : Same H1 (upd H1 l0 (.lst [])) := same_new hl0 _
    have hl02 : upd H1 l0 (.lst []) l0 = some (.lst []) := upd_same
    generalize upd H1 l0 (.lst []) = H2 at g2 hl02
    have g12 := g1.trans g2
    obtain ⟨l, vs, o, hl, hrow, hget, hod⟩ : ∃ l vs o, H2 l = some (.lst vs) ∧ Rows3 W.K H2 vs (ofX rs X) ∧ DGet H2 rd (V.str (sg X)) o ∧ o.getD (.ref l0) = .ref l := by
      have hg0 : DGet H2 rd (kV (.inr (sg X))) (valV kv (.inr (sg X))) := DGet.k (g12 _ _ hrd)
      rcases hrb.at_ X with ⟨a1, a2⟩ | ⟨l, vs, a1, a2, a3⟩
      · exact ⟨l0, [], none, hl02, by rw [a2]; exact .nil, by rw [a1] at hg0; exact hg0, rfl⟩
      · exact ⟨l, vs, some (.ref l), g12 _ _ a2, Rows3.mono a3 g12.imS, by rw [a1] at hg0; exact hg0, rfl⟩
    refine ⟨o, hget, ?_⟩
    rw [hod]
    have hof : (ofX rs X).length ≤ 80 := Nat.le_trans (List.length_filter_le _ _) h80
    refine ⟨_, rfl, l, rfl, ⟨vs, SqL.of hl⟩, fun D hD => ?_⟩
    refine lcF_list (ofX rs X) (fun r => decide (r.a = A ∨ r.a = 42) && decide (r.b = B ∨ r.b = 42)) (fun r => .int r.p) hD (SqL.of hl) (Paired.length hrow) (by omega) (fun i y r hy hr3 H3 R N g3 hR hN => ?_) (fun H3 g3 hD3 => ?_)
    · obtain ⟨r', hr', q, rfl, hq⟩ := Paired.at hrow hy
      rw [hr3] at hr'
      cases hr'
      have hq3 := g3.tS hq
      refine ⟨rfl, _, rfl, q, _, _, _, rfl, rfl, hq3, rfl, _, rfl, by show 2 ≤ sizeLine; decide, fun p hp => ?_⟩
      refine ⟨p, _, rfl, .inr (SqT.of upd_same), rfl, rfl, _, rfl, ?_⟩
      have k1 : Same H3 (upd H3 p (.tup [.str (sg A), .str "*"])) := same_new hp _
      show if (inV (.str (sg r.a)) [.str (sg A), .str "*"]) = true then _ else _
      rw [in2]
      by_cases h2 : r.a = A ∨ r.a = 42
      · rw [decide_eq_true h2]
        refine iteT ⟨_, rfl, q, _, _, _, rfl, rfl, k1.tS hq3, rfl, _, rfl, by show 2 ≤ sizeLine; decide, fun p2 hp2 => ?_⟩
        refine ⟨p2, _, rfl, .inr (SqT.of upd_same), rfl, rfl, _, rfl, ?_⟩
        have k2 := k1.trans (same_new hp2 (.tup [.str (sg B), .str "*"]))
        show if (inV (.str (sg r.b)) [.str (sg B), .str "*"]) = true then _ else _
        rw [in2]
        by_cases h3 : r.b = B ∨ r.b = 42
        · rw [decide_eq_true h3]
          exact iteT ⟨_, rfl, q, _, _, _, rfl, rfl, k2.tS hq3, rfl, hR (by rw [decide_eq_true h2, decide_eq_true h3]; rfl) _ k2⟩
        · rw [decide_eq_false h3]
          exact iteF (hN (by rw [decide_eq_false h3]; exact Bool.and_false _) _ k2)
      · rw [decide_eq_false h2]
        exact iteF (hN (by rw [decide_eq_false h2]; rfl) _ k1)
    · have epr : ((ofX rs X).filter fun r => decide (r.a = A ∨ r.a = 42) && decide (r.b = B ∨ r.b = 42)).map (fun r => V.int r.p) = (prices rs A X B).map V.int := by
        unfold prices ofX
        rw [List.filter_filter, List.map_map]
        congr 1
        refine List.filter_congr fun r _ => ?_
        unfold fits
        exact Bool.and_comm _ _
      rw [epr] at hD3
      have g123 := g12.trans g3
      have fin : ∀ v, v = optV (minO (prices rs A X B)) → tRet (tDGet (tFld W.K (tVar 0) (Str.ofString "own_costs")) (tVar 4)) { nx := fun x H' => Q V.non H', rt := Q }
          [some (.ref fa), some (.str (sg A)), some (.str (sg X)), some (.str (sg B)), some (.ref t), some (.ref l), some (.ref D), none] (upd H3 cd (.dT (putK kv2 (caseK A X B) v))) := fun v ev => by
        have hk2 := keys_put (k := caseK A X B) (v := v) hco.nd
        have hco2 : CostsOk (putK kv2 (caseK A X B) v) rs := ⟨hk2.1, fun j hj => by
          rcases hk2.2 j hj with e | e
          · rw [e]; exact mem_caseKeys hA hX hB
          · exact hco.ks j e, fun A' X' B' v' hv' => by
          rw [valV_put] at hv'
          by_cases c : caseK A' X' B' = caseK A X B
          · rw [if_pos c] at hv'
            obtain ⟨e1, e2, e3⟩ := caseK_inj c
            cases hv'
            rw [ev, e1, e2, e3]
          · rw [if_neg c] at hv'
            exact hco.at_ _ _ _ _ hv'⟩
        have hcd3 := g123 _ _ (show H cd = _ from hcd)
        have hF := ((hf.same g1).same (g2.trans g3)).costs hco2
        have htc : t ≠ cd := fun e => by
          have := g1 _ _ hcd
          rw [e, this] at htt; cases htt
        obtain ⟨dx', ho'⟩ := hF.ob
        refine ⟨_, rfl, fa, _, _, _, _, rfl, ho', Z.c_Fits, Z.n_own_costs, rfl, _, rfl, cd, v, rfl, ?_, ?_⟩
        · have := DGet.t (kvs := putK kv2 (caseK A X B) v) (H := upd H3 cd (.dT (putK kv2 (caseK A X B) v))) (a := cd) (b := t) (k := caseK A X B) upd_same (by rw [upd_ne htc]; exact g3 _ _ (g2 _ _ htt))
          rw [valV_put, if_pos rfl] at this
          exact this
        · rw [ev]
          rw [ev] at hF
          exact k _ (But.put (g1.trans (g2.trans g3) |>.but _) List.mem_cons_self) hF
      have put : ∀ v, v = optV (minO (prices rs A X B)) → DPut H3 cd (.ref t) v (upd H3 cd (.dT (putK kv2 (caseK A X B) v))) := fun v _ => DPut.t (g3 _ _ (g2 _ _ (g1 _ _ hcd))) (g3 _ _ (g2 _ _ htt)) hco.len
      have ho3 := g123 _ _ (show H fa = _ from ho)
      refine ⟨_, rfl, D, _, rfl, rfl, SqL.of hD3, fun e => ?_, fun e m hm1 hm2 => ?_⟩
      · have eo : V.non = optV (minO (prices rs A X B)) := by rw [← isMin_uniq (o := none) e (minO_is _)]; rfl
        exact ⟨_, rfl, fa, _, _, _, _, rfl, ho3, Z.c_Fits, Z.n_own_costs, rfl, _, rfl, cd, _, rfl, put _ eo, fin _ eo⟩
      · have eo : V.int m = optV (minO (prices rs A X B)) := by rw [← isMin_uniq (o := some m) ⟨hm1, hm2⟩ (minO_is _)]; rfl
        exact ⟨_, rfl, fa, _, _, _, _, rfl, ho3, Z.c_Fits, Z.n_own_costs, rfl, _, rfl, cd, _, rfl, put _ eo, fin _ eo⟩
end
end Sl
/-! SlW5 -/
namespace Sl
open PySem PySem.Spec PyProof.Rows L2
theorem same_free {H H' : Hp} {a : Addr} (e : Same H H') (h : H' a = none) : H a = none := by
  cases q : H a with
  | none => rfl
  | some o => rw [e _ _ q] at h; cases h
/-! ### the gaps of a word -/
abbrev cGaps (K : PySem.W.Frag) : Addr := He.ga K "Gaps"
def gapK (p q : Int) : List Key := [.inl p, .inl q]
theorem gapK_inj {p q p' q' : Int} (h : gapK p q = gapK p' q') : p = p' ∧ q = q' := by
  unfold gapK at h
  injection h with h1 h
  injection h with h2 h
  exact ⟨Sum.inl.inj h1, Sum.inl.inj h2⟩
def gapKeys : List (List Key) := (fromTo (-1) 122).flatMap fun p => (fromTo (-1) 122).map fun q => gapK p q
theorem gapKeys_len : gapKeys.length = 14884 := by
  unfold gapKeys
  simp only [List.length_flatMap, List.length_map, fromTo_len, List.map_const', List.sum_replicate_nat]
theorem mem_gapKeys {p q : Int} (h1 : -1 ≤ p) (h2 : p ≤ 120) (h3 : -1 ≤ q) (h4 : q ≤ 120) : gapK p q ∈ gapKeys :=
  List.mem_flatMap.mpr ⟨p, mem_fromTo.mpr ⟨h1, by omega⟩, List.mem_map.mpr ⟨q, mem_fromTo.mpr ⟨h3, by omega⟩, rfl⟩⟩
structure RootsOk (H : Hp) (kv : List (List Key × V)) (z : Str) (rs : List Rule) (S : Int → Int → Prop) : Prop where
  nd : (kv.map (·.1)).Nodup
  ks : ∀ j ∈ kv.map (·.1), j ∈ gapKeys
  at_ : ∀ p q v, valV kv (gapK p q) = some v → ∃ l, v = .ref l ∧ H l = some (.lst ((roots (pr z rs) p q).map V.int))
  is_ : ∀ p q, S p q → (valV kv (gapK p q)).isSome = true
theorem RootsOk.len {H : Hp} {kv : List (List Key × V)} {z : Str} {rs : List Rule} {S : Int → Int → Prop} (h : RootsOk H kv z rs S) : kv.length < sizeLine := by
  have := keys_len gapKeys h.nd h.ks
  rw [gapKeys_len] at this
  exact Nat.lt_of_le_of_lt this (by decide)
def extW (z : Str) : Str := "<" ++ z ++ ">"
structure GapsAt (K : PySem.W.Frag) (H : Hp) (ga fa rd cd ro : Addr) (z : Str) (rs : List Rule) (S : Int → Int → Prop) : Prop where
  ob : ∃ dx, H ga = some (.ins (cGaps K) dx [("own_word", .str (extW z)), ("own_fits", .ref fa), ("own_roots", .ref ro)])
  gw : GoodW z
  gb : GoodB rs
  ft : FitsAt K H fa rd cd rs
  ro_ : ∃ kv, H ro = some (.dT kv) ∧ RootsOk H kv z rs S
  ne : ro ≠ cd
section
variable {K : PySem.W.Frag} {H H' : Hp} {ga fa rd cd ro : Addr} {z : Str} {rs : List Rule} {S S' : Int → Int → Prop}
theorem GapsAt.mono (g : GapsAt K H ga fa rd cd ro z rs S) (h : ∀ a b, S' a b → S a b) : GapsAt K H ga fa rd cd ro z rs S' := by
  obtain ⟨kv, h1, h2⟩ := g.ro_
  exact ⟨g.ob, g.gw, g.gb, g.ft, ⟨kv, h1, ⟨h2.nd, h2.ks, h2.at_, fun p q s => h2.is_ p q (h p q s)⟩⟩, g.ne⟩
theorem GapsAt.cdT (g : GapsAt K H ga fa rd cd ro z rs S) : ∃ kv, H cd = some (.dT kv) := by
  obtain ⟨kv, h, _⟩ := g.ft.cd_
  exact ⟨kv, h⟩
theorem GapsAt.step (g : GapsAt K H ga fa rd cd ro z rs S) (b : But [cd] H H') (f : FitsAt K H' fa rd cd rs) : GapsAt K H' ga fa rd cd ro z rs S := by
  obtain ⟨dx, h1⟩ := g.ob
  obtain ⟨kv, h2, h3⟩ := g.ro_
  obtain ⟨kc, hc⟩ := g.cdT
  have k : ∀ a o, H a = some o → (∀ q, o ≠ .dT q) → H' a = some o := fun a o e n => b a o (fun m => by simp at m; rw [m, hc] at e; cases e; exact n _ rfl) e
  refine ⟨⟨dx, k _ _ h1 (by intro q e; cases e)⟩, g.gw, g.gb, f, ⟨kv, b _ _ (by simpa using g.ne) h2, ⟨h3.nd, h3.ks, fun p q v hv => ?_, h3.is_⟩⟩, g.ne⟩
  obtain ⟨l, e, h4⟩ := h3.at_ p q v hv
  exact ⟨l, e, k _ _ h4 (by intro q e; cases e)⟩
theorem _root_.Sl.FitsAt.ofBut {H' : Hp} (f : FitsAt K H fa rd cd rs) (b : But [cd] H H') (h : ∃ kv, H' cd = some (.dT kv) ∧ CostsOk kv rs) : FitsAt K H' fa rd cd rs := by
  obtain ⟨dx, h1⟩ := f.ob
  obtain ⟨kv1, h2, h3⟩ := f.rd_
  obtain ⟨kv2, h4, h5⟩ := f.cd_
  have im : Im K H H' := b.im fun a ha => by simp at ha; rw [ha, h4]; exact True.intro
  have k : ∀ a o, H a = some o → (∀ q, o ≠ .dT q) → H' a = some o := fun a o e n => b a o (fun m => by simp at m; rw [m, h4] at e; cases e; exact n _ rfl) e
  refine ⟨⟨dx, k _ _ h1 (by intro q e; cases e)⟩, ⟨kv1, k _ _ h2 (by intro q e; cases e), ⟨fun X => ?_⟩⟩, h⟩
  rcases h3.at_ X with h | ⟨l, vs, a1, a2, a3⟩
  · exact .inl h
  · exact .inr ⟨l, vs, a1, k _ _ a2 (by intro q e; cases e), Rows3.mono a3 im⟩
theorem GapsAt.ofBut (g : GapsAt K H ga fa rd cd ro z rs S) (b : But [cd] H H') (h : ∃ kv, H' cd = some (.dT kv) ∧ CostsOk kv rs) : GapsAt K H' ga fa rd cd ro z rs S := g.step b (g.ft.ofBut b h)
theorem GapsAt.same (g : GapsAt K H ga fa rd cd ro z rs S) (e : Same H H') : GapsAt K H' ga fa rd cd ro z rs S := g.step (e.but _) (g.ft.same e)
theorem GapsAt.put (g : GapsAt K H ga fa rd cd ro z rs S) {kv : List (List Key × V)} (hro : H ro = some (.dT kv)) {p q : Int} {l : Addr} (hp : -1 ≤ p) (hp2 : p ≤ 120) (hq : -1 ≤ q) (hq2 : q ≤ 120) (hl : H l = some (.lst ((roots (pr z rs) p q).map V.int))) :
    GapsAt K (upd H ro (.dT (putK kv (gapK p q) (.ref l)))) ga fa rd cd ro z rs (fun a b => S a b ∨ (a = p ∧ b = q)) := by
  obtain ⟨dx, h1⟩ := g.ob
  obtain ⟨kv', h2, h3⟩ := g.ro_
  rw [hro] at h2
  cases h2
  have k : ∀ a o, H a = some o → (∀ q, o ≠ .dT q) → upd H ro (.dT (putK kv (gapK p q) (.ref l))) a = some o := fun a o e n => by
    rw [upd_ne (fun (x : a = ro) => by rw [x, hro] at e; cases e; exact n _ rfl)]
    exact e
  have hk := keys_put (k := gapK p q) (v := .ref l) h3.nd
  refine ⟨⟨dx, k _ _ h1 (by intro q e; cases e)⟩, g.gw, g.gb, g.ft.but (L := [ro]) (But.put (Same.but (Same.refl H) _) List.mem_cons_self) (fun a ha => by simp at ha; rw [ha]; exact ⟨_, hro⟩) (by simpa using g.ne.symm), ⟨_, upd_same, ⟨hk.1, fun j hj => ?_, fun a b v hv => ?_, fun a b s => ?_⟩⟩, g.ne⟩
  · rcases hk.2 j hj with e | e
    · rw [e]; exact mem_gapKeys hp hp2 hq hq2
    · exact h3.ks j e
  · rw [valV_put] at hv
    by_cases c : gapK a b = gapK p q
    · rw [if_pos c] at hv
      cases hv
      obtain ⟨e1, e2⟩ := gapK_inj c
      rw [e1, e2]
      exact ⟨l, rfl, k _ _ hl (by intro q e; cases e)⟩
    · rw [if_neg c] at hv
      obtain ⟨l', e, h4⟩ := h3.at_ a b v hv
      exact ⟨l', e, k _ _ h4 (by intro q e; cases e)⟩
  · rw [valV_put]
    by_cases c : gapK a b = gapK p q
    · rw [if_pos c]; rfl
    · rw [if_neg c]
      rcases s with s | ⟨e1, e2⟩
      · exact h3.is_ a b s
      · exact absurd (by rw [e1, e2]) c
end
theorem signAt_lt {z : Str} (h : GoodW z) (i : Int) : signAt z i < 123 := by
  unfold signAt
  by_cases c : i < 0
  · rw [if_pos c]; decide
  · rw [if_neg c]
    cases q : z.cps.toList[i.toNat]? with
    | none => decide
    | some x => have := (h.let_ x (List.mem_of_getElem? q)).2; show x < 123; omega
theorem extW_list (z : Str) : (extW z).cps.toList = 60 :: (z.cps.toList ++ [62]) := by
  have e : (extW z).cps = ("<" : Str).cps ++ z.cps ++ (">" : Str).cps := rfl
  rw [e, lt_sg, gt_sg]
  simp
theorem extW_len (z : Str) : (extW z).length = z.cps.size + 2 := by
  have : (extW z).cps.toList.length = z.cps.size + 2 := by rw [extW_list]; simp
  rwa [Array.length_toList] at this
theorem extW_at {z : Str} {i : Int} (h0 : -1 ≤ i) (h1 : i ≤ (z.cps.size : Int)) : atI (extW z).cps.toList (i + 1) = some (signAt z i) := by
  have hs : z.cps.toList.length = z.cps.size := Array.length_toList
  have := atI_nat (xs := (extW z).cps.toList) (j := (i + 1).toNat) (v := signAt z i) (by
    rw [extW_list]
    unfold signAt
    by_cases c : i < 0
    · rw [if_pos c, show (i + 1).toNat = 0 by omega]
      rfl
    · rw [if_neg c, show (i + 1).toNat = i.toNat + 1 by omega, List.getElem?_cons_succ]
      by_cases c2 : i.toNat < z.cps.toList.length
      · rw [List.getElem?_append_left c2, List.getElem?_eq_getElem c2]
        rfl
      · have hn : z.cps.toList[i.toNat]? = none := List.getElem?_eq_none (by omega)
        rw [List.getElem?_append_right (by omega), show i.toNat - z.cps.toList.length = 0 by omega, hn]
        rfl)
  rwa [show (((i + 1).toNat : Nat) : Int) = i + 1 by omega] at this
theorem sc_Gaps_init : FnScope ["self", "word", "fits"] ["self", "word", "fits"] (defScope s_Gaps_init) := ⟨rfl, rfl, rfl, by decide +kernel, rfl, by decide +kernel, by decide +kernel⟩
theorem bd_Gaps_init : Bnd d_Gaps_init ["self", "word", "fits"] := fun _ _ _ _ _ _ us hl => match us, hl with | [_, _, _], _ => rfl
theorem sc_Gaps_cost : FnScope ["self", "place", "p", "q", "word"] ["self", "place", "p", "q"] (defScope s_Gaps_cost) := ⟨rfl, rfl, rfl, by decide +kernel, rfl, by decide +kernel, by decide +kernel⟩
theorem bd_Gaps_cost : Bnd d_Gaps_cost ["self", "place", "p", "q"] := fun _ _ _ _ _ _ us hl => match us, hl with | [_, _, _, _], _ => rfl
theorem sc_Gaps_is_open : FnScope ["self", "p", "q"] ["self", "p", "q"] (defScope s_Gaps_is_open) := ⟨rfl, rfl, rfl, by decide +kernel, rfl, by decide +kernel, by decide +kernel⟩
theorem bd_Gaps_is_open : Bnd d_Gaps_is_open ["self", "p", "q"] := fun _ _ _ _ _ _ us hl => match us, hl with | [_, _, _], _ => rfl
theorem sc_Gaps_look : FnScope ["self", "p", "q", "place"] ["self", "p", "q"] (defScope s_Gaps_look) := ⟨rfl, rfl, rfl, by decide +kernel, rfl, by decide +kernel, by decide +kernel⟩
theorem bd_Gaps_look : Bnd d_Gaps_look ["self", "p", "q"] := fun _ _ _ _ _ _ us hl => match us, hl with | [_, _, _], _ => rfl
theorem sc_Gaps_look_within : FnScope ["self", "p", "q", "wide", "low"] ["self", "p", "q"] (defScope s_Gaps_look_within) := ⟨rfl, rfl, rfl, by decide +kernel, rfl, by decide +kernel, by decide +kernel⟩
theorem bd_Gaps_look_within : Bnd d_Gaps_look_within ["self", "p", "q"] := fun _ _ _ _ _ _ us hl => match us, hl with | [_, _, _], _ => rfl
theorem sc_need_gap : FnScope ["word", "p", "q"] ["word", "p", "q"] (defScope s_need_gap) := ⟨rfl, rfl, rfl, by decide +kernel, rfl, by decide +kernel, by decide +kernel⟩
theorem bd_need_gap : Bnd d_need_gap ["word", "p", "q"] := fun _ _ _ _ _ _ us hl => match us, hl with | [_, _, _], _ => rfl
theorem sc_need_all : FnScope ["word", "book", "p", "q"] ["word", "book", "p", "q"] (defScope s_need_all) := ⟨rfl, rfl, rfl, by decide +kernel, rfl, by decide +kernel, by decide +kernel⟩
theorem bd_need_all : Bnd d_need_all ["word", "book", "p", "q"] := fun _ _ _ _ _ _ us hl => match us, hl with | [_, _, _, _], _ => rfl
theorem sc_gaps_within : FnScope ["word", "book", "p", "q", "found"] ["word", "book", "p", "q"] (defScope s_gaps_within) := ⟨rfl, rfl, rfl, by decide +kernel, rfl, by decide +kernel, by decide +kernel⟩
theorem bd_gaps_within : Bnd d_gaps_within ["word", "book", "p", "q"] := fun _ _ _ _ _ _ us hl => match us, hl with | [_, _, _, _], _ => rfl
def spGapsInit (K : PySem.W.Frag) : Sp := fun vs H Q _ => ∃ (a dx fa rd cd : Addr) (z : Str) (rs : List Rule), vs = [.ref a, .str z, .ref fa] ∧ H a = some (.ins (cGaps K) dx []) ∧ GoodW z ∧ GoodB rs ∧ FitsAt K H fa rd cd rs ∧ a ≠ fa ∧
  ∀ ro H', But [a] H H' → GapsAt K H' a fa rd cd ro z rs (fun _ _ => False) → H ro = none → Q .non H'
def spGapsCost (K : PySem.W.Frag) : Sp := fun vs H Q _ => ∃ ga fa rd cd ro z rs S, ∃ x p q : Int, vs = [.ref ga, .int x, .int p, .int q] ∧ GapsAt K H ga fa rd cd ro z rs S ∧ -1 ≤ x ∧ x ≤ (z.cps.size : Int) ∧ -1 ≤ p ∧ p ≤ (z.cps.size : Int) ∧ -1 ≤ q ∧ q ≤ (z.cps.size : Int) ∧
  ∀ H', But [cd] H H' → GapsAt K H' ga fa rd cd ro z rs S → Q (optV (pr z rs p x q)) H'
def spIsOpen (K : PySem.W.Frag) : Sp := fun vs H Q _ => ∃ ga fa rd cd ro z rs S, ∃ p q : Int, vs = [.ref ga, .int p, .int q] ∧ GapsAt K H ga fa rd cd ro z rs S ∧ -1 ≤ p ∧ p < q ∧ q ≤ (z.cps.size : Int) ∧ (q - p = 1 ∨ S p q) ∧
  ∀ H', Same H H' → Q (.bl (opn (pr z rs) p q)) H'
def spLook (K : PySem.W.Frag) : Sp := fun vs H Q _ => ∃ ga fa rd cd ro z rs S, ∃ p q : Int, vs = [.ref ga, .int p, .int q] ∧ GapsAt K H ga fa rd cd ro z rs S ∧ -1 ≤ p ∧ p < q ∧ q ≤ (z.cps.size : Int) ∧ (∀ a b, p ≤ a → b ≤ q → 2 ≤ b - a → b - a < q - p → S a b) ∧
  ∀ H', But [cd, ro] H H' → GapsAt K H' ga fa rd cd ro z rs (fun a b => S a b ∨ (a = p ∧ b = q)) → Q .non H'
def Full (p q : Int) : Int → Int → Prop := fun a b => p ≤ a ∧ b ≤ q ∧ 2 ≤ b - a
def spLookWithin (K : PySem.W.Frag) : Sp := fun vs H Q _ => ∃ ga fa rd cd ro z rs, ∃ p q : Int, vs = [.ref ga, .int p, .int q] ∧ GapsAt K H ga fa rd cd ro z rs (fun _ _ => False) ∧ -1 ≤ p ∧ p < q ∧ q ≤ (z.cps.size : Int) ∧
  ∀ H', But [cd, ro] H H' → GapsAt K H' ga fa rd cd ro z rs (Full p q) → Q .non H'
def spNeedGap : Sp := fun vs H Q _ => ∃ (z : Str) (p q : Int), vs = [.str z, .int p, .int q] ∧ GoodW z ∧ -1 ≤ p ∧ p < q ∧ q ≤ (z.cps.size : Int) ∧ Q .non H
def spNeedAll (K : PySem.W.Frag) : Sp := fun vs H Q _ => ∃ (z : Str) (bp : Addr) (xs : List V) (rs : List Rule) (p q : Int), vs = [.str z, .ref bp, .int p, .int q] ∧ GoodW z ∧ GoodB rs ∧ BookAt K H bp xs rs ∧ -1 ≤ p ∧ p < q ∧ q ≤ (z.cps.size : Int) ∧ ∀ H', Same H H' → Q .non H'
def spGapsWithin (K : PySem.W.Frag) : Sp := fun vs H Q _ => ∃ (z : Str) (bp : Addr) (xs : List V) (rs : List Rule) (p q : Int), vs = [.str z, .ref bp, .int p, .int q] ∧ GoodW z ∧ GoodB rs ∧ BookAt K H bp xs rs ∧ -1 ≤ p ∧ p < q ∧ q ≤ (z.cps.size : Int) ∧
  ∀ ga fa rd cd ro H', Same H H' → GapsAt K H' ga fa rd cd ro z rs (Full p q) → Q (.ref ga) H'
section
variable {W : Wd} (Z : Hd W)
include Z
theorem ok_Gaps_init : CalI W 1 "Gaps" ["self", "word", "fits"] (spGapsInit W.K) := by
  refine cali_mk (d := d_Gaps_init) Z.mk_Gaps Z.g_Gaps Z.d_Gaps_init sc_Gaps_init bd_Gaps_init (fun vs H Q E h => ?_) fun f cdv A outer s H vs Q E hr h => ?_
  · obtain ⟨_, _, _, _, _, _, _, rfl, _⟩ := h; rfl
  obtain ⟨a, dx, fa, rd, cd, z, rs, rfl, ha, hz, hg, hf, haf, k⟩ := h
  obtain ⟨_, k_BEFORE⟩ := Z.k_BEFORE
  obtain ⟨_, k_BEHIND⟩ := Z.k_BEHIND
  refine ⟨_, pss_cons (ps_fld (pv 0) (pe_op op_add_str (pe_op op_add_str (pe_gS k_BEFORE) (pv 1)) (pe_gS k_BEHIND)) (by rfl))
      (pss_cons (ps_fld (pv 0) (pv 2) (by rfl))
      (pss_one (ps_fld (pv 0) pe_dnewT (by rfl)))), ?_⟩
  have hl := hz.len
  refine ⟨_, rfl, _, _, rfl, rfl, by show 1 + z.cps.size ≤ sizeLine; exact sz_of (by omega), _, _, rfl, rfl, by show (("<" : Str) ++ z).cps.size + 1 ≤ sizeLine; exact sz_of (by show (("<" : Str).cps ++ z.cps).size + 1 ≤ _; rw [Array.size_append]; show 1 + z.cps.size + 1 ≤ _; omega), ?_⟩
  refine ⟨_, rfl, a, _, dx, _, rfl, ha, Z.c_Gaps, Z.n_own_word, by show 0 < 1000; decide, ?_⟩
  refine ⟨_, rfl, _, rfl, a, _, dx, _, rfl, upd_same, Z.c_Gaps, Z.n_own_fits, by show 1 < 1000; decide, fun ro hro => ?_⟩
  rw [upd_upd] at hro ⊢
  have ra : ro ≠ a := fun e => by rw [e, upd_same] at hro; cases hro
  refine ⟨_, rfl, a, _, dx, _, rfl, by rw [upd_ne ra.symm, upd_same], Z.c_Gaps, Z.n_own_roots, by show 2 < 1000; decide, ?_⟩
  have hro0 : H ro = none := by rw [← hro, upd_ne ra]
  have b : But [a] H (upd (upd (upd H a (.ins (cGaps W.K) dx (putF "own_fits" (.ref fa) (putF "own_word" (.str (extW z)) [])))) ro (.dT [])) a (.ins (cGaps W.K) dx (putF "own_roots" (.ref ro) (putF "own_fits" (.ref fa) (putF "own_word" (.str (extW z)) []))))) :=
    But.put (But.new (But.put (Same.but (Same.refl H) _) List.mem_cons_self) hro) List.mem_cons_self
  obtain ⟨dxf, hof⟩ := hf.ob
  obtain ⟨kv, hrd, hrb⟩ := hf.rd_
  obtain ⟨kv2, hcd, hco⟩ := hf.cd_
  have kk : ∀ {c o}, H c = some o → (∀ C d l, o ≠ .ins C d l) → (upd (upd (upd H a (.ins (cGaps W.K) dx (putF "own_fits" (.ref fa) (putF "own_word" (.str (extW z)) [])))) ro (.dT [])) a (.ins (cGaps W.K) dx (putF "own_roots" (.ref ro) (putF "own_fits" (.ref fa) (putF "own_word" (.str (extW z)) []))))) c = some o :=
    fun {c o} e n => b c o (fun m => by simp at m; rw [m, ha] at e; cases e; exact n _ _ _ rfl) e
  have im := b.im (K := W.K) (fun c hc => by simp at hc; rw [hc, ha]; exact True.intro)
  refine k ro _ b ⟨⟨dx, upd_same⟩, hz, hg, ⟨⟨dxf, b _ _ (by simpa using haf.symm) hof⟩, ⟨kv, kk hrd (by intro _ _ _ e; cases e), ⟨fun X => ?_⟩⟩, kv2, kk hcd (by intro _ _ _ e; cases e), hco⟩, ⟨[], by rw [upd_ne ra, upd_same], ⟨.nil, by simp, (fun p q v h => by cases h), (fun p q s => False.elim s)⟩⟩, fun e => by rw [e, hcd] at hro0; cases hro0⟩ hro0
  rcases hrb.at_ X with h | ⟨l, vs, a1, a2, a3⟩
  · exact .inl h
  · exact .inr ⟨l, vs, a1, kk a2 (by intro _ _ _ e; cases e), Rows3.mono a3 im⟩
theorem ok_Gaps_cost : CalM W 2 "Gaps" "cost" ["self", "place", "p", "q"] (spGapsCost W.K) := by
  refine calm_mk (d := d_Gaps_cost) Z.t_Gaps_cost Z.d_Gaps_cost sc_Gaps_cost bd_Gaps_cost (fun vs H Q E h => ?_) fun f cdv A outer s H vs Q E hr h => ?_
  · obtain ⟨_, _, _, _, _, _, _, _, _, _, _, rfl, _⟩ := h; rfl
  obtain ⟨ga, fa, rd, cd, ro, z, rs, S, x, p, q, rfl, g, hx, hx2, hp, hp2, hq, hq2, k⟩ := h
  refine ⟨_, pss_cons (ps_set (i := 4) sc_Gaps_cost.nd rfl (Or.inl rfl) (k_fld W.K (pv 0)))
      (pss_one (ps_ret (k_calm W.K (ok_Fits_cost Z) Z.c_Fits (hr.mono (by decide)) (k_fld W.K (pv 0)) (pa_cons (pe_ix ix_str (pv 4) (pe_op op_add (pv 2) pe_int) (fun _ _ => rfl)) (pa_cons (pe_ix ix_str (pv 4) (pe_op op_add (pv 1) pe_int) (fun _ _ => rfl)) (pa_cons (pe_ix ix_str (pv 4) (pe_op op_add (pv 3) pe_int) (fun _ _ => rfl)) pa_nil)))))), ?_⟩
  have hl := g.gw.len
  obtain ⟨dx, ho⟩ := g.ob
  obtain ⟨dxf, hof⟩ := g.ft.ob
  have hel := extW_len z
  have hsz : (extW z).length ≤ sizeLine := by rw [hel]; exact sz_of (by omega)
  refine ⟨_, rfl, ga, _, _, _, _, rfl, ho, Z.c_Gaps, Z.n_own_word, rfl, ?_⟩
  refine ⟨_, rfl, ga, _, _, _, _, rfl, ho, Z.c_Gaps, Z.n_own_fits, rfl, fa, dxf, _, rfl, hof, rfl, ?_⟩
  refine ⟨_, rfl, _, rfl, _, _, rfl, rfl, _, _, _, rfl, rfl, hsz, extW_at hp hp2, ?_⟩
  refine ⟨_, rfl, _, rfl, _, _, rfl, rfl, _, _, _, rfl, rfl, hsz, extW_at hx hx2, ?_⟩
  refine ⟨_, rfl, _, rfl, _, _, rfl, rfl, _, _, _, rfl, rfl, hsz, extW_at hq hq2, ?_⟩
  exact ⟨fa, rd, cd, rs, signAt z p, signAt z x, signAt z q, rfl, g.ft, g.gb, signAt_lt g.gw _, signAt_lt g.gw _, signAt_lt g.gw _, fun H' b f => k H' b (g.step b f)⟩
theorem ok_Gaps_is_open : CalM W 1 "Gaps" "is_open" ["self", "p", "q"] (spIsOpen W.K) := by
  refine calm_mk (d := d_Gaps_is_open) Z.t_Gaps_is_open Z.d_Gaps_is_open sc_Gaps_is_open bd_Gaps_is_open (fun vs H Q E h => ?_) fun f cdv A outer s H vs Q E hr h => ?_
  · obtain ⟨_, _, _, _, _, _, _, _, _, _, rfl, _⟩ := h; rfl
  obtain ⟨ga, fa, rd, cd, ro, z, rs, S, p, q, rfl, g, hp, hpq, hq, hS, k⟩ := h
  refine ⟨_, pss_one (ps_ret (pe_or (pe_cmpR op_eq (pe_op op_sub (pv 2) (pv 1)) pe_int (nomark _)) (pe_one (pe_cmpR (k_op_neD W.K hr.units) (pe_dget (hu_of hr) (k_fld W.K (pv 0)) (pe_tup (pa_cons (pv 1) (pa_cons (pv 2) pa_nil))) (fun _ _ => rfl)) (pe_lst pa_nil) (nomark _))))), ?_⟩
  have hl := g.gw.len
  obtain ⟨dx, ho⟩ := g.ob
  obtain ⟨kv, hro, hR⟩ := g.ro_
  refine ⟨_, rfl, _, rfl, _, _, rfl, rfl, rfl, _, rfl, ite2 (fun c => ?_) (fun c => ?_)⟩
  · have h1 : q - p = 1 := V.int.inj (of_decide_eq_true c)
    have e : true = opn (pr z rs) p q := by rw [opn_eq, decide_eq_true h1]; rfl
    show Q (.bl true) H
    rw [e]
    exact k H (Same.refl H)
  · have h1 : ¬ q - p = 1 := fun e => c (decide_eq_true (congrArg V.int e))
    have hs : S p q := by rcases hS with h | h; exact absurd h h1; exact h
    obtain ⟨v, hv⟩ := Option.isSome_iff_exists.mp (hR.is_ p q hs)
    obtain ⟨l, rfl, hl2⟩ := hR.at_ p q v hv
    refine ⟨_, rfl, ga, _, _, _, _, rfl, ho, Z.c_Gaps, Z.n_own_roots, rfl, _, rfl, _, rfl, by show 2 ≤ sizeLine; decide, fun t ht => ?_⟩
    have g1 : Same H (upd H t (.tup [.int p, .int q])) := same_new ht _
    refine ⟨ro, .ref l, rfl, ?_, by show 0 ≤ sizeLine; decide, fun l0 hl0 => ?_⟩
    · rw [← hv]
      exact DGet.t (g1 _ _ hro) upd_same
    refine ⟨_, _, dp_lI (SqL.of (same_new hl0 _ _ _ (g1 _ _ hl2))), dp_l0 upd_same, shaped_lI _, shaped_lI _, ?_⟩
    have e : (!PyData.eqv (.list (pInts (roots (pr z rs) p q))) (.list (pInts []))) = opn (pr z rs) p q := by
      rw [eqv_lI, opn_eq, decide_eq_false h1]
      cases roots (pr z rs) p q <;> simp
    rw [e]
    exact k _ (g1.trans (same_new hl0 _))
theorem ok_Gaps_look : CalM W 3 "Gaps" "look" ["self", "p", "q"] (spLook W.K) := by
  refine calm_mk (d := d_Gaps_look) Z.t_Gaps_look Z.d_Gaps_look sc_Gaps_look bd_Gaps_look (fun vs H Q E h => ?_) fun f cdv A outer s H vs Q E hr h => ?_
  · obtain ⟨_, _, _, _, _, _, _, _, _, _, rfl, _⟩ := h; rfl
  obtain ⟨ga, fa, rd, cd, ro, z, rs, S, p, q, rfl, g, hp, hpq, hq, hS, k⟩ := h
  refine ⟨_, pss_one (ps_dput (hu_of hr) (k_fld W.K (pv 0)) (pe_tup (pa_cons (pv 1) (pa_cons (pv 2) pa_nil))) (pe_lc (own := [("place", 3)]) (g := gName 3) rfl sc_Gaps_look.nd (pi_range2 (by rfl) Z.m_range (pa_cons (pe_op op_add (pv 1) pe_int) (pa_cons (pv 2) pa_nil))) (blkOk_by (own := [("place", 3)]) (N := ["self", "p", "q", "place"]) (sc := defScope s_Gaps_look) (by decide +kernel)) (fun _ _ _ _ _ => pg_name (i := 3) sc_Gaps_look.nd rfl (Or.inl rfl)) (fun _ _ _ _ _ => pts_one (PW.pt (pw_and (pt_cmpR op_notN (k_calm W.K (ok_Gaps_cost Z) Z.c_Gaps (hr.mono (by decide)) (pv 0) (pa_cons (pv 3) (pa_cons (pv 1) (pa_cons (pv 2) pa_nil)))) pe_non (nomark _)) (pw_and (pt_val (k_calm W.K (ok_Gaps_is_open Z) Z.c_Gaps (hr.mono (by decide)) (pv 0) (pa_cons (pv 1) (pa_cons (pv 3) pa_nil)))) (pw_and1 (pt_val (k_calm W.K (ok_Gaps_is_open Z) Z.c_Gaps (hr.mono (by decide)) (pv 0) (pa_cons (pv 3) (pa_cons (pv 2) pa_nil))))))))) (fun _ _ _ _ _ => (pv 3))) (by rfl)), ?_⟩
  have hl := g.gw.len
  obtain ⟨dx, ho⟩ := g.ob
  obtain ⟨kv, hro, hR⟩ := g.ro_
  refine ⟨_, rfl, _, _, rfl, rfl, _, rfl, _, _, rfl, ⟨by omega, by omega, by omega, by omega⟩, fun D hD => ?_⟩
  refine lc_range (fun i H' => But [cd] H H' ∧ (∃ kv, H' cd = some (.dT kv) ∧ CostsOk kv rs) ∧ H' D = some (.lst ((((fromTo (p + 1) (q - (p + 1)).toNat).take i).filter fun x => (pr z rs p x q).isSome && (opn (pr z rs) p x && opn (pr z rs) x q)).map V.int))) ⟨(same_new hD _).but _, (g.same (same_new hD _)).ft.cd_, by rw [upd_same]; rfl⟩ (fun i H' hi q' => ?_) (fun H' q' => ?_)
  · obtain ⟨b, hc, hd⟩ := q'
    obtain ⟨kc, hc1, hc2⟩ := hc
    have g1 := g.ofBut b ⟨kc, hc1, hc2⟩
    have dcd : D ≠ cd := fun e => by rw [← e, hd] at hc1; cases hc1
    have hti := get_snoc (fromTo_get (p + 1) hi)
    refine ⟨rfl, ?_⟩
    obtain ⟨dx1, ho1⟩ := g1.ob
    refine ⟨_, rfl, ga, dx1, _, rfl, ho1, rfl, _, rfl, _, rfl, _, rfl, ga, fa, rd, cd, ro, z, rs, S, p + 1 + (i : Nat), p, q, rfl, g1, by omega, by omega, by omega, by omega, by omega, by omega, fun H2 b2 g2 => ?_⟩
    have hd2 : H2 D = _ := b2 D _ (by simpa using dcd) hd
    have b3 : But [cd] H H2 := fun c o hc q' => b2 c o hc (b c o hc q')
    have fin : ∀ H3, Same H2 H3 → ((pr z rs p (p + 1 + (i : Nat)) q).isSome && (opn (pr z rs) p (p + 1 + (i : Nat)) && opn (pr z rs) (p + 1 + (i : Nat)) q)) = false → (But [cd] H H3 ∧ (∃ kv, H3 cd = some (.dT kv) ∧ CostsOk kv rs) ∧
        H3 D = some (.lst ((((fromTo (p + 1) (q - (p + 1)).toNat).take (i + 1)).filter fun x => (pr z rs p x q).isSome && (opn (pr z rs) p x && opn (pr z rs) x q)).map V.int))) := fun H3 g3 hf => by
      refine ⟨b3.seq g3, (g2.same g3).ft.cd_, ?_⟩
      rw [hti, List.filter_append, List.filter_cons, hf]
      simp only [Bool.false_eq_true, if_false, List.filter_nil, List.append_nil]
      exact g3 _ _ hd2
    refine ⟨rfl, _, rfl, ?_⟩
    cases hpx : pr z rs p (p + 1 + (i : Nat)) q with
    | none => exact iteF (fin H2 (Same.refl H2) (by rw [hpx]; rfl))
    | some c0 =>
      obtain ⟨dx2, ho2⟩ := g2.ob
      refine iteT ⟨_, rfl, ga, dx2, _, rfl, ho2, rfl, _, rfl, _, rfl, ga, fa, rd, cd, ro, z, rs, S, p, p + 1 + (i : Nat), rfl, g2, by omega, by omega, by omega, ?_, fun H3 g3 => ⟨_, rfl, ?_⟩⟩
      · by_cases c : i = 0
        · left; omega
        · exact .inr (hS _ _ (by omega) (by omega) (by omega) (by omega))
      cases ho1 : opn (pr z rs) p (p + 1 + (i : Nat)) with
      | false => exact iteF (fin H3 g3 (by rw [ho1]; simp))
      | true =>
        have g3' := g2.same g3
        obtain ⟨dx3, ho3⟩ := g3'.ob
        refine iteT ⟨_, rfl, ga, dx3, _, rfl, ho3, rfl, _, rfl, _, rfl, ga, fa, rd, cd, ro, z, rs, S, p + 1 + (i : Nat), q, rfl, g3', by omega, by omega, by omega, ?_, fun H4 g4 => ⟨_, rfl, ?_⟩⟩
        · by_cases c : q - (p + 1 + (i : Nat)) = 1
          · exact .inl c
          · exact .inr (hS _ _ (by omega) (by omega) (by omega) (by omega))
        cases ho4 : opn (pr z rs) (p + 1 + (i : Nat)) q with
        | false => exact iteF (fin H4 (g3.trans g4) (by rw [ho4]; simp))
        | true =>
          have g34 := g3.trans g4
          refine iteT ⟨_, rfl, _, g34 _ _ hd2, sz_lt ?_, (b3.seq g34).mut hD, ?_, ?_⟩
          · rw [List.length_map]
            have e1 := List.length_filter_le (fun x => (pr z rs p x q).isSome && (opn (pr z rs) p x && opn (pr z rs) x q)) ((fromTo (p + 1) (q - (p + 1)).toNat).take i)
            have e2 := List.length_take_le i (fromTo (p + 1) (q - (p + 1)).toNat)
            omega
          · obtain ⟨kc3, a1, a2⟩ := (g2.same g34).ft.cd_
            exact ⟨kc3, by rw [upd_ne dcd.symm]; exact a1, a2⟩
          · rw [upd_same, hti, List.filter_append, List.filter_cons, hpx, ho1, ho4]
            simp
  · obtain ⟨b, hc, hd⟩ := q'
    have g1 := g.ofBut b hc
    rw [List.take_of_length_le (by rw [fromTo_len]; exact Nat.le_refl _), show (q - (p + 1)).toNat = (q - p - 1).toNat by omega] at hd
    have hd' : H' D = some (.lst ((roots (pr z rs) p q).map V.int)) := hd
    obtain ⟨dx1, ho1⟩ := g1.ob
    obtain ⟨kv1, hro1, hR1⟩ := g1.ro_
    refine ⟨_, rfl, ga, _, _, _, _, rfl, ho1, Z.c_Gaps, Z.n_own_roots, rfl, _, rfl, _, rfl, by show 2 ≤ sizeLine; decide, fun t ht => ?_⟩
    have g3 := same_new ht (.tup [.int p, .int q])
    refine ⟨ro, _, rfl, DPut.t (k := gapK p q) (g3 _ _ hro1) upd_same hR1.len, ?_⟩
    refine k _ ?_ ((g1.same g3).put (g3 _ _ hro1) hp (by omega) (by omega) (by omega) (g3 _ _ hd'))
    refine But.put (fun c o hc q' => g3 c o (b c o (fun m => hc (by simp at m; simp [m])) q')) (by simp)
theorem ok_Gaps_look_within : CalM W 4 "Gaps" "look_within" ["self", "p", "q"] (spLookWithin W.K) := by
  refine calm_mk (d := d_Gaps_look_within) Z.t_Gaps_look_within Z.d_Gaps_look_within sc_Gaps_look_within bd_Gaps_look_within (fun vs H Q E h => ?_) fun f cdv A outer s H vs Q E hr h => ?_
  · obtain ⟨_, _, _, _, _, _, _, _, _, rfl, _⟩ := h; rfl
  obtain ⟨ga, fa, rd, cd, ro, z, rs, p, q, rfl, g, hp, hpq, hq, k⟩ := h
  refine ⟨_, pss_one (ps_for PassesOwn.never rfl (pi_range2 (by rfl) Z.m_range (pa_cons pe_int (pa_cons (pe_op op_add (pe_op op_sub (pv 2) (pv 1)) pe_int) pa_nil))) (pg_name (i := 3) sc_Gaps_look_within.nd rfl (Or.inl rfl)) (pss_one (ps_for PassesOwn.never rfl (pi_range2 (by rfl) Z.m_range (pa_cons (pv 1) (pa_cons (pe_op op_add (pe_op op_sub (pv 2) (pv 3)) pe_int) pa_nil))) (pg_name (i := 4) sc_Gaps_look_within.nd rfl (Or.inl rfl)) (pss_one (ps_if (pt_cmp (pc_dnotin (hu_of hr) (pe_tup (pa_cons (pv 4) (pa_cons (pe_op op_add (pv 4) (pv 3)) pa_nil))) (k_fld W.K (pv 0)))) (pss_one (ps_expr (k_calm W.K (ok_Gaps_look Z) Z.c_Gaps (hr.mono (by decide)) (pv 0) (pa_cons (pv 4) (pa_cons (pe_op op_add (pv 4) (pv 3)) pa_nil))))) pss_nil))))), ?_⟩
  have hl := g.gw.len
  refine ⟨_, rfl, _, rfl, _, _, rfl, rfl, _, _, rfl, rfl, _, _, rfl, ⟨by omega, by omega, by omega, by omega⟩, ?_⟩
  refine for_range (fun i σ H' => (∃ w1 w2, σ = [some (.ref ga), some (.int p), some (.int q), w1, w2]) ∧ But [cd, ro] H H' ∧ GapsAt W.K H' ga fa rd cd ro z rs (fun a b => p ≤ a ∧ b ≤ q ∧ 2 ≤ b - a ∧ b - a < 2 + (i : Nat))) ⟨⟨_, _, rfl⟩, (Same.refl H).but _, g.mono fun a b h => by omega⟩ (fun i σ H' hi q' => ?_) (fun σ H' q' => ?_)
  · obtain ⟨⟨w1, w2, rfl⟩, b, g1⟩ := q'
    refine ⟨_, rfl, _, rfl, _, rfl, _, _, rfl, rfl, _, _, rfl, rfl, _, _, rfl, ⟨by omega, by omega, by omega, by omega⟩, ?_⟩
    refine for_range (fun j σ H2 => (∃ w2, σ = [some (.ref ga), some (.int p), some (.int q), some (.int (2 + (i : Nat))), w2]) ∧ But [cd, ro] H H2 ∧ GapsAt W.K H2 ga fa rd cd ro z rs (fun a b => p ≤ a ∧ b ≤ q ∧ 2 ≤ b - a ∧ (b - a < 2 + (i : Nat) ∨ (b - a = 2 + (i : Nat) ∧ a < p + (j : Nat))))) ⟨⟨_, rfl⟩, b, g1.mono fun a b h => by omega⟩ (fun j σ H2 hj q' => ?_) (fun σ H2 q' => ?_)
    · obtain ⟨⟨w2, rfl⟩, b2, g2⟩ := q'
      obtain ⟨dx, ho⟩ := g2.ob
      obtain ⟨kv, hro, hR⟩ := g2.ro_
      refine ⟨_, rfl, _, rfl, _, rfl, _, _, rfl, rfl, by show 2 ≤ sizeLine; decide, fun t ht => ?_⟩
      have g3 := same_new ht (.tup [.int (p + (j : Nat)), .int (p + (j : Nat) + (2 + (i : Nat)))])
      refine ⟨_, rfl, ga, _, _, _, _, rfl, g3 _ _ ho, Z.c_Gaps, Z.n_own_roots, rfl, ro, _, rfl, DGet.t (k := gapK (p + (j : Nat)) (p + (j : Nat) + (2 + (i : Nat)))) (g3 _ _ hro) upd_same, _, rfl, ?_⟩
      have g2' := g2.same g3
      cases hv : valV kv (gapK (p + (j : Nat)) (p + (j : Nat) + (2 + (i : Nat)))) with
      | some v =>
        refine iteF ⟨⟨_, rfl⟩, b2.seq g3, ?_⟩
        obtain ⟨kv', e1, e2⟩ := g2'.ro_
        have e3 := g3 _ _ hro
        rw [e3] at e1
        cases e1
        refine ⟨g2'.ob, g2'.gw, g2'.gb, g2'.ft, ⟨kv, e3, ⟨e2.nd, e2.ks, e2.at_, fun a b h => ?_⟩⟩, g2'.ne⟩
        by_cases c : a = p + (j : Nat) ∧ b = p + (j : Nat) + (2 + (i : Nat))
        · rw [c.1, c.2, hv]
          rfl
        · exact e2.is_ a b (by omega)
      | none =>
        obtain ⟨dx3, ho3⟩ := g2'.ob
        refine iteT ⟨_, rfl, ga, dx3, _, rfl, ho3, rfl, _, rfl, _, rfl, _, rfl, _, _, rfl, rfl, ga, fa, rd, cd, ro, z, rs, _, p + (j : Nat), p + (j : Nat) + (2 + (i : Nat)), rfl, g2', by omega, by omega, by omega, fun a b h1 h2 h3 h4 => by omega, fun H4 b4 g4 => ?_⟩
        exact ⟨⟨_, rfl⟩, fun c o hc q' => b4 c o hc (b2.seq g3 c o hc q'), g4.mono fun a b h => by omega⟩
    · obtain ⟨⟨w2, rfl⟩, b2, g2⟩ := q'
      exact ⟨⟨_, _, rfl⟩, b2, g2.mono fun a b h => by omega⟩
  · obtain ⟨⟨w1, w2, rfl⟩, b, g1⟩ := q'
    exact k H' b (g1.mono fun a b h => by unfold Full at h; omega)
theorem ok_need_gap : Cal W 2 "need_gap" ["word", "p", "q"] spNeedGap := by
  refine cal_mk (d := d_need_gap) Z.g_need_gap Z.d_need_gap sc_need_gap bd_need_gap (fun vs H Q E h => ?_) fun f cdv A outer s H vs Q E hr h => ?_
  · obtain ⟨_, _, _, rfl, _⟩ := h; rfl
  obtain ⟨z, p, q, rfl, hz, hp, hpq, hq, k⟩ := h
  refine ⟨_, pss_cons (ps_if (pt_not (pt_val (pe_iwb Z (hr.mono (by decide)) (pv 1) (pe_un un_neg pe_int) (pe_op op_sub (pe_callB call_len_str (by rfl) Z.m_len (by decide +kernel) (pa_cons (pv 0) pa_nil)) pe_int)))) (pss_one (ps_never)) pss_nil)
      (pss_one (ps_if (pt_not (pt_val (pe_iwb Z (hr.mono (by decide)) (pv 2) (pe_op op_add (pv 1) pe_int) (pe_callB call_len_str (by rfl) Z.m_len (by decide +kernel) (pa_cons (pv 0) pa_nil))))) (pss_one (ps_never)) pss_nil)), ?_⟩
  have hl := hz.len
  have hzs : (z.length : Int) = (z.cps.size : Int) := rfl
  refine ⟨_, rfl, _, rfl, _, rfl, z, rfl, sz_of (by show z.cps.size ≤ _; omega), _, _, rfl, rfl, rfl, rfl, p, _, _, rfl, ?_⟩
  rw [decide_eq_true (by constructor <;> omega)]
  refine ⟨_, rfl, iteF ?_⟩
  refine ⟨_, rfl, _, rfl, _, _, rfl, rfl, _, rfl, z, rfl, sz_of (by show z.cps.size ≤ _; omega), rfl, rfl, q, _, _, rfl, ?_⟩
  rw [decide_eq_true (by constructor <;> omega)]
  exact ⟨_, rfl, iteF k⟩
theorem ok_need_all : Cal W 5 "need_all" ["word", "book", "p", "q"] (spNeedAll W.K) := by
  refine cal_mk (d := d_need_all) Z.g_need_all Z.d_need_all sc_need_all bd_need_all (fun vs H Q E h => ?_) fun f cdv A outer s H vs Q E hr h => ?_
  · obtain ⟨_, _, _, _, _, _, rfl, _⟩ := h; rfl
  obtain ⟨z, bp, xs, rs, p, q, rfl, hz, hg, hb, hp, hpq, hq, k⟩ := h
  refine ⟨_, pss_cons (ps_expr (pe_cal (ok_need_word Z) (hr.mono (by decide)) (pa_cons (pv 0) pa_nil)))
      (pss_cons (ps_expr (pe_cal (ok_need_book Z) (hr.mono (by decide)) (pa_cons (pv 1) pa_nil)))
      (pss_one (ps_expr (pe_cal (ok_need_gap Z) (hr.mono (by decide)) (pa_cons (pv 0) (pa_cons (pv 2) (pa_cons (pv 3) pa_nil))))))), ?_⟩
  refine ⟨_, rfl, z, rfl, hz, fun H1 g1 => ?_⟩
  refine ⟨_, rfl, bp, xs, rs, rfl, hb.mono g1.imS, hg, fun H2 g2 => ?_⟩
  exact ⟨_, rfl, _, rfl, _, rfl, z, p, q, rfl, hz, hp, hpq, hq, k H2 (g1.trans g2)⟩
theorem ok_gaps_within : Cal W 6 "gaps_within" ["word", "book", "p", "q"] (spGapsWithin W.K) := by
  refine cal_mk (d := d_gaps_within) Z.g_gaps_within Z.d_gaps_within sc_gaps_within bd_gaps_within (fun vs H Q E h => ?_) fun f cdv A outer s H vs Q E hr h => ?_
  · obtain ⟨_, _, _, _, _, _, rfl, _⟩ := h; rfl
  obtain ⟨z, bp, xs, rs, p, q, rfl, hz, hg, hb, hp, hpq, hq, k⟩ := h
  refine ⟨_, pss_cons (ps_expr (pe_cal (ok_need_all Z) (hr.mono (by decide)) (pa_cons (pv 0) (pa_cons (pv 1) (pa_cons (pv 2) (pa_cons (pv 3) pa_nil))))))
      (pss_cons (ps_set (i := 4) sc_gaps_within.nd rfl (Or.inl rfl) (pe_cali (ok_Gaps_init Z) (hr.mono (by decide)) (pa_cons (pv 0) (pa_cons (pe_cali (ok_Fits_init Z) (hr.mono (by decide)) (pa_cons (pv 1) pa_nil)) pa_nil))))
      (pss_cons (ps_expr (k_calm W.K (ok_Gaps_look_within Z) Z.c_Gaps (hr.mono (by decide)) (pv 4) (pa_cons (pv 2) (pa_cons (pv 3) pa_nil))))
      (pss_one (ps_ret (pv 4))))), ?_⟩
  refine ⟨_, rfl, _, rfl, _, rfl, _, rfl, z, bp, xs, rs, p, q, rfl, hz, hg, hb, hp, hpq, hq, fun H1 g1 => ?_⟩
  refine ⟨_, rfl, _, rfl, ?_⟩
  refine fun fa dxf hfa hdf hnf => ?_
  have n1 : Same H1 (upd (upd H1 dxf (.own fa)) fa (.ins (cFits W.K) dxf [])) := (same_new hdf _).trans (same_new (by rw [upd_ne hnf.symm]; exact hfa) _)
  refine ⟨fa, dxf, bp, xs, rs, rfl, upd_same, hg, (hb.mono g1.imS).mono n1.imS, fun rd cd H2 b2 f2 hcd0 => ⟨rfl, ?_⟩⟩
  have g2 : Same H1 H2 := b2.same (fun a ha => by simp at ha; rw [ha]; exact hfa) n1
  have hcd1 : H1 cd = none := same_free n1 hcd0
  refine fun ga dxg hga hdg hng => ?_
  have n2 : Same H2 (upd (upd H2 dxg (.own ga)) ga (.ins (cGaps W.K) dxg [])) := (same_new hdg _).trans (same_new (by rw [upd_ne hng.symm]; exact hga) _)
  obtain ⟨dxf2, hof⟩ := f2.ob
  refine ⟨ga, dxg, fa, rd, cd, z, rs, rfl, upd_same, hz, hg, f2.same n2, (fun (e : ga = fa) => by rw [e, hof] at hga; cases hga), fun ro H3 b3 g3 hro => ⟨rfl, ?_⟩⟩
  have s3 : Same H2 H3 := b3.same (fun a ha => by simp at ha; rw [ha]; exact hga) n2
  obtain ⟨dx3, ho3⟩ := g3.ob
  refine ⟨_, rfl, ga, dx3, _, rfl, ho3, rfl, _, rfl, _, rfl, ga, fa, rd, cd, ro, z, rs, p, q, rfl, g3, hp, hpq, hq, fun H4 b4 g4 => ?_⟩
  refine ⟨_, rfl, k ga fa rd cd ro H4 (g1.trans (b4.same (fun a ha => ?_) (g2.trans s3))) g4⟩
  simp at ha
  rcases ha with rfl | rfl
  · exact hcd1
  · exact same_free (g2.trans n2) hro
end
end Sl
/-! SlMath2 -/
namespace Sl
/-! ### rows and ways to weave -/
def fac : Nat → Nat
  | 0 => 1
  | n + 1 => fac n * (n + 1)
theorem fac_pos : ∀ n, 0 < fac n
  | 0 => Nat.one_pos
  | n + 1 => Nat.mul_pos (fac_pos n) (Nat.succ_pos n)
theorem fac_mono {a b : Nat} (h : a ≤ b) : fac a ≤ fac b := by
  induction h with
  | refl => exact Nat.le_refl _
  | step h ih => exact Nat.le_trans ih (Nat.le_mul_of_pos_right _ (Nat.succ_pos _))
/-- ways to weave a and b -/
def bin : Nat → Nat → Nat
  | 0, _ => 1
  | _ + 1, 0 => 1
  | a + 1, b + 1 => bin a (b + 1) + bin (a + 1) b
theorem bin_zero (b : Nat) : bin 0 b = 1 := by unfold bin; rfl
theorem bin_zero_r : ∀ a : Nat, bin a 0 = 1
  | 0 => bin_zero 0
  | a + 1 => by unfold bin; rfl
theorem bin_succ (a b : Nat) : bin (a + 1) (b + 1) = bin a (b + 1) + bin (a + 1) b := by rw [bin]
theorem bin_pos : ∀ a b : Nat, 0 < bin a b
  | 0, b => by rw [bin_zero]; exact Nat.one_pos
  | a + 1, 0 => by rw [bin_zero_r]; exact Nat.one_pos
  | a + 1, b + 1 => by
    unfold bin
    have := bin_pos a (b + 1)
    omega
theorem bin_fac : ∀ a b : Nat, bin a b * (fac a * fac b) = fac (a + b)
  | 0, b => by rw [bin_zero, Nat.zero_add, Nat.one_mul]; show 1 * fac b = fac b; exact Nat.one_mul _
  | a + 1, 0 => by rw [bin_zero_r, Nat.one_mul, Nat.add_zero]; show fac (a + 1) * 1 = _; exact Nat.mul_one _
  | a + 1, b + 1 => by
    have h1 := bin_fac a (b + 1)
    have h2 := bin_fac (a + 1) b
    have e : fac (a + 1 + (b + 1)) = fac (a + (b + 1)) * (a + 1) + fac (a + 1 + b) * (b + 1) := by
      rw [show a + 1 + (b + 1) = (a + b + 1) + 1 by omega, show a + (b + 1) = a + b + 1 by omega, show a + 1 + b = a + b + 1 by omega, ← Nat.mul_add]
      show fac (a + b + 1) * (a + b + 1 + 1) = _
      congr 1
      omega
    rw [e, ← h1, ← h2]
    rw [bin_succ]
    show (bin a (b + 1) + bin (a + 1) b) * (fac a * (a + 1) * (fac b * (b + 1))) = bin a (b + 1) * (fac a * (fac b * (b + 1))) * (a + 1) + bin (a + 1) b * (fac a * (a + 1) * fac b) * (b + 1)
    rw [Nat.add_mul]
    congr 1
    · simp only [Nat.mul_assoc, Nat.mul_comm, Nat.mul_left_comm]
    · simp only [Nat.mul_assoc, Nat.mul_comm, Nat.mul_left_comm]
theorem bin_div (a b : Nat) : fac (a + b) / (fac a * fac b) = bin a b := by
  rw [← bin_fac, Nat.mul_div_cancel _ (Nat.mul_pos (fac_pos a) (fac_pos b))]
theorem fac_121 : fac 121 < 2 ^ 900 := by decide +kernel
theorem fac_lt {n : Nat} (h : n ≤ 121) : fac n < 2 ^ 900 := Nat.lt_of_le_of_lt (fac_mono h) fac_121
theorem bin_le (a b : Nat) : bin a b ≤ fac (a + b) := by
  rw [← bin_fac]
  exact Nat.le_mul_of_pos_right _ (Nat.mul_pos (fac_pos a) (fac_pos b))
/-! ### how many orders, how many trees -/
section
variable (pr : Pr)
def sumF (g : Int → Int → Int → Nat) (p q : Int) (l : List Int) : Nat := (l.map fun x => g p x q).sum
def ordF : Nat → Int → Int → Nat
  | 0, _, _ => 0
  | n + 1, p, q => (if q = p + 1 then 1 else 0) + ((roots pr p q).map fun x => ordF n p x * ordF n x q * bin (x - p - 1).toNat (q - x - 1).toNat).sum
def treF : Nat → Int → Int → Nat
  | 0, _, _ => 0
  | n + 1, p, q => (if q = p + 1 then 1 else 0) + ((roots pr p q).map fun x => treF n p x * treF n x q).sum
def ord (p q : Int) : Nat := ordF pr (q - p).toNat p q
def tre (p q : Int) : Nat := treF pr (q - p).toNat p q
/-- the orders with x last -/
def ordW (p q x : Int) : Nat := ord pr p x * ord pr x q * bin (x - p - 1).toNat (q - x - 1).toNat
end
variable {pr : Pr}
theorem ordF_eq : ∀ (n m : Nat) (p q : Int), (q - p).toNat ≤ n → (q - p).toNat ≤ m → 0 < n → 0 < m → ordF pr n p q = ordF pr m p q
  | n + 1, m + 1, p, q, h1, h2, _, _ => by
    unfold ordF
    congr 1
    congr 1
    refine List.map_congr_left fun x hx => ?_
    have hx := mem_roots.mp hx
    rw [ordF_eq n m p x (by omega) (by omega) (by omega) (by omega), ordF_eq n m x q (by omega) (by omega) (by omega) (by omega)]
theorem treF_eq : ∀ (n m : Nat) (p q : Int), (q - p).toNat ≤ n → (q - p).toNat ≤ m → 0 < n → 0 < m → treF pr n p q = treF pr m p q
  | n + 1, m + 1, p, q, h1, h2, _, _ => by
    unfold treF
    congr 1
    congr 1
    refine List.map_congr_left fun x hx => ?_
    have hx := mem_roots.mp hx
    rw [treF_eq n m p x (by omega) (by omega) (by omega) (by omega), treF_eq n m x q (by omega) (by omega) (by omega) (by omega)]
theorem ord_eq {p q : Int} (h : p < q) : ord pr p q = (if q = p + 1 then 1 else 0) + ((roots pr p q).map fun x => ordW pr p q x).sum := by
  unfold ord
  obtain ⟨n, hn⟩ : ∃ n, (q - p).toNat = n + 1 := ⟨(q - p).toNat - 1, by omega⟩
  rw [hn]
  unfold ordF
  congr 1
  congr 1
  refine List.map_congr_left fun x hx => ?_
  have hx := mem_roots.mp hx
  unfold ordW ord
  rw [ordF_eq n (x - p).toNat p x (by omega) (Nat.le_refl _) (by omega) (by omega), ordF_eq n (q - x).toNat x q (by omega) (Nat.le_refl _) (by omega) (by omega)]
theorem tre_eq {p q : Int} (h : p < q) : tre pr p q = (if q = p + 1 then 1 else 0) + ((roots pr p q).map fun x => tre pr p x * tre pr x q).sum := by
  have e0 : tre pr p q = treF pr (q - p).toNat p q := rfl
  obtain ⟨n, hn⟩ : ∃ n, (q - p).toNat = n + 1 := ⟨(q - p).toNat - 1, by omega⟩
  rw [e0, hn]
  unfold treF
  congr 1
  congr 1
  refine List.map_congr_left fun x hx => ?_
  have hx := mem_roots.mp hx
  rw [treF_eq n (x - p).toNat p x (by omega) (Nat.le_refl _) (by omega) (by omega), treF_eq n (q - x).toNat x q (by omega) (Nat.le_refl _) (by omega) (by omega)]
  rfl
theorem sum_le_mul {α : Type} (f : α → Nat) (c : Nat) : ∀ l : List α, (∀ x ∈ l, f x ≤ c) → (l.map f).sum ≤ l.length * c
  | [], _ => Nat.zero_le _
  | a :: l, h => by
    have h1 := sum_le_mul f c l fun x hx => h x (List.mem_cons_of_mem _ hx)
    have h2 := h a List.mem_cons_self
    rw [List.map_cons, List.sum_cons, List.length_cons, Nat.succ_mul]
    omega
theorem fac_gap {w : Nat} {l : List Int} {f : Int → Nat} {p q : Int} (hw : (q - p).toNat = w + 2) (hl : l.length ≤ (q - p - 1).toNat) (h : ∀ x ∈ l, f x ≤ fac w) : (l.map f).sum ≤ fac ((q - p - 1).toNat) := by
  have h1 := sum_le_mul f (fac w) l h
  have e : (q - p - 1).toNat = w + 1 := by omega
  rw [e] at hl ⊢
  show _ ≤ fac w * (w + 1)
  rw [Nat.mul_comm]
  exact Nat.le_trans h1 (Nat.mul_le_mul_right _ hl)
theorem ord_le : ∀ (n : Nat) (p q : Int), (q - p).toNat ≤ n → p < q → ord pr p q ≤ fac (q - p - 1).toNat
  | 0, p, q, h, h2 => by omega
  | n + 1, p, q, h, h2 => by
    rw [ord_eq h2]
    by_cases c : q = p + 1
    · have hr : roots pr p q = [] := by
        refine List.eq_nil_iff_forall_not_mem.mpr fun x hx => ?_
        have hx := mem_roots.mp hx
        omega
      rw [hr, if_pos c]
      exact fac_pos _
    · rw [if_neg c, Nat.zero_add]
      obtain ⟨w, hw⟩ : ∃ w, (q - p).toNat = w + 2 := ⟨(q - p).toNat - 2, by omega⟩
      refine fac_gap hw (roots_len p q) fun x hx => ?_
      have hx := mem_roots.mp hx
      have h3 := ord_le n p x (by omega) (by omega)
      have h4 := ord_le n x q (by omega) (by omega)
      unfold ordW
      have h5 := Nat.mul_le_mul_right (bin (x - p - 1).toNat (q - x - 1).toNat) (Nat.mul_le_mul h3 h4)
      refine Nat.le_trans h5 ?_
      rw [Nat.mul_comm, bin_fac]
      exact fac_mono (by omega)
theorem tre_le : ∀ (n : Nat) (p q : Int), (q - p).toNat ≤ n → p < q → tre pr p q ≤ fac (q - p - 1).toNat
  | 0, p, q, h, h2 => by omega
  | n + 1, p, q, h, h2 => by
    rw [tre_eq h2]
    by_cases c : q = p + 1
    · have hr : roots pr p q = [] := by
        refine List.eq_nil_iff_forall_not_mem.mpr fun x hx => ?_
        have hx := mem_roots.mp hx
        omega
      rw [hr, if_pos c]
      exact fac_pos _
    · rw [if_neg c, Nat.zero_add]
      obtain ⟨w, hw⟩ : ∃ w, (q - p).toNat = w + 2 := ⟨(q - p).toNat - 2, by omega⟩
      refine fac_gap hw (roots_len p q) fun x hx => ?_
      have hx := mem_roots.mp hx
      have h3 := tre_le n p x (by omega) (by omega)
      have h4 := tre_le n x q (by omega) (by omega)
      refine Nat.le_trans (Nat.mul_le_mul h3 h4) ?_
      have h5 : fac (x - p - 1).toNat * fac (q - x - 1).toNat ≤ fac ((x - p - 1).toNat + (q - x - 1).toNat) := by
        rw [← bin_fac]
        exact Nat.le_mul_of_pos_left _ (bin_pos _ _)
      exact Nat.le_trans h5 (fac_mono (by omega))
theorem ord_lt {p q : Int} (h : p < q) (h2 : q - p ≤ 121) : ord pr p q < 2 ^ 900 := Nat.lt_of_le_of_lt (ord_le _ p q (Nat.le_refl _) h) (fac_lt (by omega))
theorem tre_lt {p q : Int} (h : p < q) (h2 : q - p ≤ 121) : tre pr p q < 2 ^ 900 := Nat.lt_of_le_of_lt (tre_le _ p q (Nat.le_refl _) h) (fac_lt (by omega))
end Sl
/-! SlW6 -/
namespace Sl
open PySem PySem.Spec PyProof.Rows L2
/-! ### rows -/
def facs (n : Nat) : List Int := (List.range n).map fun i => ((fac i : Nat) : Int)
theorem facs_len (n : Nat) : (facs n).length = n := by unfold facs; rw [List.length_map, List.length_range]
theorem facs_at {n i : Nat} (h : i < n) : (facs n)[i]? = some ((fac i : Nat) : Int) := by
  unfold facs
  rw [List.getElem?_map, List.getElem?_range h]
  rfl
theorem facs_atI {n : Nat} {i : Int} (h0 : 0 ≤ i) (h : i < n) : atI ((facs n).map V.int) i = some (.int ((fac i.toNat : Nat) : Int)) := by
  have := atI_nat (xs := (facs n).map V.int) (j := i.toNat) (v := .int ((fac i.toNat : Nat) : Int)) (by rw [List.getElem?_map, facs_at (by omega)]; rfl)
  rwa [show ((i.toNat : Nat) : Int) = i by omega] at this
theorem facs_succ (n : Nat) : facs (n + 1) = facs n ++ [((fac n : Nat) : Int)] := by
  unfold facs
  rw [List.range_succ, List.map_append]
  rfl
theorem natW {n : Nat} (h : n < 2 ^ 900) : ((n : Nat) : Int).natAbs < 2 ^ 900 := by rwa [Int.natAbs_natCast]
theorem sc_all_rows : FnScope ["many", "found", "part"] ["many"] (defScope s_all_rows) := ⟨rfl, rfl, rfl, by decide +kernel, rfl, by decide +kernel, by decide +kernel⟩
theorem bd_all_rows : Bnd d_all_rows ["many"] := fun _ _ _ _ _ _ us hl => match us, hl with | [_], _ => rfl
theorem sc_times_over : FnScope ["rows", "one", "other"] ["rows", "one", "other"] (defScope s_times_over) := ⟨rfl, rfl, rfl, by decide +kernel, rfl, by decide +kernel, by decide +kernel⟩
theorem bd_times_over : Bnd d_times_over ["rows", "one", "other"] := fun _ _ _ _ _ _ us hl => match us, hl with | [_, _, _], _ => rfl
def spAllRows (K : PySem.W.Frag) : Sp := fun vs H Q _ => ∃ n : Nat, vs = [.int (n : Nat)] ∧ n ≤ 121 ∧ ∀ l H', Same H H' → H l = none → H' l = some (.lst ((facs (n + 1)).map V.int)) → Q (.ref l) H'
def spTimesOver (K : PySem.W.Frag) : Sp := fun vs H Q _ => ∃ (l : Addr) (n : Nat) (a b : Int), vs = [.ref l, .int a, .int b] ∧ H l = some (.lst ((facs n).map V.int)) ∧ n ≤ 122 ∧ 0 ≤ a ∧ 0 ≤ b ∧ a + b < n ∧ Q (.int ((bin a.toNat b.toNat : Nat) : Int)) H
section
variable {W : Wd} (Z : Hd W)
include Z
theorem ok_all_rows : Cal W 1 "all_rows" ["many"] (spAllRows W.K) := by
  refine cal_mk (d := d_all_rows) Z.g_all_rows Z.d_all_rows sc_all_rows bd_all_rows (fun vs H Q E h => ?_) fun f cdv A outer s H vs Q E hr h => ?_
  · obtain ⟨_, rfl, _⟩ := h; rfl
  obtain ⟨n, rfl, hn, k⟩ := h
  refine ⟨_, pss_cons (ps_set (i := 1) sc_all_rows.nd rfl (Or.inl rfl) (pe_lst (pa_cons pe_int pa_nil)))
      (pss_cons (ps_for PassesOwn.never rfl (pi_range2 (by rfl) Z.m_range (pa_cons pe_int (pa_cons (pe_op op_add (pv 0) pe_int) pa_nil))) (pg_name (i := 2) sc_all_rows.nd rfl (Or.inl rfl)) (pss_one (ps_expr (k_append W.K (pv 1) (pe_op op_mulW (pe_ix (k_ix_list W.K) (pv 1) (pe_un un_neg pe_int) (fun _ _ => rfl)) (pv 2))))))
      (pss_one (ps_ret (pv 1)))), ?_⟩
  refine ⟨by show 1 ≤ sizeLine; decide, fun l hl => ?_⟩
  refine ⟨_, rfl, _, _, rfl, rfl, _, _, rfl, ⟨by omega, by omega, by omega, by omega⟩, ?_⟩
  refine for_range (fun i σ H' => (∃ w, σ = [some (.int (n : Nat)), some (.ref l), w]) ∧ Same H H' ∧ H' l = some (.lst ((facs (i + 1)).map V.int))) ⟨⟨_, rfl⟩, same_new hl _, upd_same⟩ (fun i σ H' hi q => ?_) (fun σ H' q => ?_)
  · obtain ⟨⟨w, rfl⟩, g, h⟩ := q
    have hlast : atI ((facs (i + 1)).map V.int) (-1) = some (.int ((fac i : Nat) : Int)) := by
      rw [facs_succ, List.map_append]
      exact atI_last _ _
    refine ⟨_, rfl, .inl ⟨rfl, _, SqL.of h⟩, _, rfl, _, rfl, ?_⟩
    have f1 := fac_lt (n := i) (by omega)
    have e : ((fac i : Nat) : Int) * (1 + (i : Nat)) = ((fac (i + 1) : Nat) : Int) := by
      show _ = ((fac i * (i + 1) : Nat) : Int)
      rw [Int.natCast_mul, Int.natCast_add, Int.add_comm 1]
      rfl
    refine ⟨l, _, _, _, rfl, rfl, SqL.of h, hlast, _, rfl, _, _, rfl, rfl, wide_mul (b := 900) (natW f1) (by omega) (by decide) (by decide) (by decide), l, _, _, rfl, rfl, h, sz_lt (by rw [List.length_map, facs_len]; omega), ⟨_, rfl⟩, g.mutS hl, ?_⟩
    rw [upd_same, facs_succ (i + 1), List.map_append, ← e]
    rfl
  · obtain ⟨⟨w, rfl⟩, g, h⟩ := q
    rw [show ((n : Int) + 1 - 1).toNat = n by omega] at h
    exact ⟨_, rfl, k l H' g hl h⟩
theorem ok_times_over : Cal W 1 "times_over" ["rows", "one", "other"] (spTimesOver W.K) := by
  refine cal_mk (d := d_times_over) Z.g_times_over Z.d_times_over sc_times_over bd_times_over (fun vs H Q E h => ?_) fun f cdv A outer s H vs Q E hr h => ?_
  · obtain ⟨_, _, _, _, rfl, _⟩ := h; rfl
  obtain ⟨l, n, a, b, rfl, hl, hn, ha, hb, hab, k⟩ := h
  refine ⟨_, pss_one (ps_ret (pe_op op_fdivW (pe_ix (k_ix_list W.K) (pv 0) (pe_op op_add (pv 1) (pv 2)) (fun _ _ => rfl)) (pe_op op_mulW (pe_ix (k_ix_list W.K) (pv 0) (pv 1) (fun _ _ => rfl)) (pe_ix (k_ix_list W.K) (pv 0) (pv 2) (fun _ _ => rfl))))), ?_⟩
  have hs := SqL.of (K := W.K) hl
  refine ⟨_, rfl, _, rfl, _, rfl, _, _, rfl, rfl, l, _, _, _, rfl, rfl, hs, facs_atI (by omega) (by omega), ?_⟩
  refine ⟨_, rfl, _, rfl, l, _, _, _, rfl, rfl, hs, facs_atI (by omega) (by omega), ?_⟩
  refine ⟨_, rfl, _, rfl, l, _, _, _, rfl, rfl, hs, facs_atI (by omega) (by omega), ?_⟩
  have f1 := fac_lt (n := a.toNat) (by omega)
  have f2 := fac_lt (n := b.toNat) (by omega)
  refine ⟨_, _, rfl, rfl, wide_mul (natW f1) (natW f2) (by decide) (by decide) (by decide), _, _, rfl, rfl, wide_div ?_ (wide_lt (natW f1) (natW f2)) (by decide) (by decide), ?_⟩
  · exact Int.mul_pos (by have := fac_pos a.toNat; omega) (by have := fac_pos b.toNat; omega)
  · have e : ((fac (a + b).toNat : Nat) : Int) / (((fac a.toNat : Nat) : Int) * ((fac b.toNat : Nat) : Int)) = ((bin a.toNat b.toNat : Nat) : Int) := by
      rw [← bin_div, show (a + b).toNat = a.toNat + b.toNat by omega]
      simp
    show Q (.int (((fac (a + b).toNat : Nat) : Int) / (((fac a.toNat : Nat) : Int) * ((fac b.toNat : Nat) : Int)))) H
    rw [e]
    exact k
end
/-! ### sums -/
abbrev cSums (K : PySem.W.Frag) : Addr := He.ga K "Sums"
structure Ad where
  ga : Addr
  fa : Addr
  rd : Addr
  cd : Addr
  ro : Addr
  rb : Addr
  od : Addr
  td : Addr
structure SumOk (kv : List (List Key × V)) (f : Int → Int → Nat) (T : Int → Int → Prop) : Prop where
  nd : (kv.map (·.1)).Nodup
  ks : ∀ j ∈ kv.map (·.1), j ∈ gapKeys
  at_ : ∀ p q v, valV kv (gapK p q) = some v → v = .int ((f p q : Nat) : Int)
  is_ : ∀ p q, T p q → (valV kv (gapK p q)).isSome = true
theorem SumOk.len {kv : List (List Key × V)} {f : Int → Int → Nat} {T : Int → Int → Prop} (h : SumOk kv f T) : kv.length < sizeLine := by
  have := keys_len gapKeys h.nd h.ks
  rw [gapKeys_len] at this
  exact Nat.lt_of_le_of_lt this (by decide)
theorem SumOk.get {kv : List (List Key × V)} {f : Int → Int → Nat} {T : Int → Int → Prop} (h : SumOk kv f T) {p q : Int} (t : T p q) : valV kv (gapK p q) = some (.int ((f p q : Nat) : Int)) := by
  obtain ⟨v, hv⟩ := Option.isSome_iff_exists.mp (h.is_ p q t)
  rw [hv, h.at_ p q v hv]
theorem SumOk.put {kv : List (List Key × V)} {f : Int → Int → Nat} {T : Int → Int → Prop} (h : SumOk kv f T) {p q : Int} (hp : -1 ≤ p) (hp2 : p ≤ 120) (hq : -1 ≤ q) (hq2 : q ≤ 120) :
    SumOk (putK kv (gapK p q) (.int ((f p q : Nat) : Int))) f (fun a b => T a b ∨ (a = p ∧ b = q)) := by
  have hk := keys_put (k := gapK p q) (v := V.int ((f p q : Nat) : Int)) h.nd
  refine ⟨hk.1, fun j hj => ?_, fun a b v hv => ?_, fun a b s => ?_⟩
  · rcases hk.2 j hj with e | e
    · rw [e]; exact mem_gapKeys hp hp2 hq hq2
    · exact h.ks j e
  · rw [valV_put] at hv
    by_cases c : gapK a b = gapK p q
    · rw [if_pos c] at hv
      cases hv
      obtain ⟨e1, e2⟩ := gapK_inj c
      rw [e1, e2]
    · rw [if_neg c] at hv
      exact h.at_ a b v hv
  · rw [valV_put]
    by_cases c : gapK a b = gapK p q
    · rw [if_pos c]; rfl
    · rw [if_neg c]
      rcases s with s | ⟨e1, e2⟩
      · exact h.is_ a b s
      · exact absurd (by rw [e1, e2]) c
theorem SumOk.mono {kv : List (List Key × V)} {f : Int → Int → Nat} {T T' : Int → Int → Prop} (h : SumOk kv f T) (m : ∀ a b, T' a b → T a b) : SumOk kv f T' := ⟨h.nd, h.ks, h.at_, fun p q t => h.is_ p q (m p q t)⟩
structure SumsAt (K : PySem.W.Frag) (H : Hp) (sa : Addr) (A : Ad) (z : Str) (rs : List Rule) (lo hi : Int) (T : Int → Int → Prop) : Prop where
  ob : ∃ dx, H sa = some (.ins (cSums K) dx [("gaps_by", .ref A.ga), ("rows_by", .ref A.rb), ("orders_by", .ref A.od), ("trees_by", .ref A.td)])
  gp : GapsAt K H A.ga A.fa A.rd A.cd A.ro z rs (Full lo hi)
  rb : H A.rb = some (.lst ((facs ((hi - lo).toNat + 1)).map V.int))
  od : ∃ kv, H A.od = some (.dT kv) ∧ SumOk kv (ord (pr z rs)) T
  td : ∃ kv, H A.td = some (.dT kv) ∧ SumOk kv (tre (pr z rs)) T
  ne : A.od ≠ A.td ∧ A.od ≠ A.cd ∧ A.od ≠ A.ro ∧ A.td ≠ A.cd ∧ A.td ≠ A.ro
  rg : -1 ≤ lo ∧ lo < hi ∧ hi ≤ (z.cps.size : Int)
section
variable {K : PySem.W.Frag} {H H' : Hp} {sa : Addr} {A : Ad} {z : Str} {rs : List Rule} {lo hi : Int} {T T' : Int → Int → Prop}
theorem GapsAt.frame {ga fa rd cd ro : Addr} {S : Int → Int → Prop} {L : List Addr} (g : GapsAt K H ga fa rd cd ro z rs S) (b : But L H H') (hL : ∀ a ∈ L, ∃ kv, H a = some (.dT kv)) (h1 : cd ∉ L) (h2 : ro ∉ L) : GapsAt K H' ga fa rd cd ro z rs S := by
  obtain ⟨dx, e1⟩ := g.ob
  obtain ⟨kv, e2, e3⟩ := g.ro_
  have k : ∀ a o, H a = some o → (∀ q, o ≠ .dT q) → H' a = some o := fun a o e n => b a o (fun m => by obtain ⟨q, e'⟩ := hL a m; rw [e'] at e; cases e; exact n _ rfl) e
  refine ⟨⟨dx, k _ _ e1 (by intro q e; cases e)⟩, g.gw, g.gb, g.ft.but b hL h1, ⟨kv, b _ _ h2 e2, ⟨e3.nd, e3.ks, fun p q v hv => ?_, e3.is_⟩⟩, g.ne⟩
  obtain ⟨l, e, h4⟩ := e3.at_ p q v hv
  exact ⟨l, e, k _ _ h4 (by intro q e; cases e)⟩
theorem GapsAt.frameI {ga fa rd cd ro : Addr} {S : Int → Int → Prop} {L : List Addr} (g : GapsAt K H ga fa rd cd ro z rs S) (b : But L H H') (hL : ∀ a ∈ L, ∃ C dx fs, H a = some (.ins C dx fs)) (h1 : ga ∉ L) (h2 : fa ∉ L) : GapsAt K H' ga fa rd cd ro z rs S := by
  obtain ⟨dx, e1⟩ := g.ob
  obtain ⟨kv, e2, e3⟩ := g.ro_
  obtain ⟨dxf, f1⟩ := g.ft.ob
  obtain ⟨kr, f2, f3⟩ := g.ft.rd_
  obtain ⟨kc, f4, f5⟩ := g.ft.cd_
  have im : Im K H H' := b.im fun a ha => by obtain ⟨C, d, l, e⟩ := hL a ha; rw [e]; exact True.intro
  have k : ∀ a o, H a = some o → (∀ C d l, o ≠ .ins C d l) → H' a = some o := fun a o e n => b a o (fun m => by obtain ⟨C, d, l, e'⟩ := hL a m; rw [e'] at e; cases e; exact n _ _ _ rfl) e
  refine ⟨⟨dx, b _ _ h1 e1⟩, g.gw, g.gb, ⟨⟨dxf, b _ _ h2 f1⟩, ⟨kr, k _ _ f2 (by intro _ _ _ e; cases e), ⟨fun X => ?_⟩⟩, kc, k _ _ f4 (by intro _ _ _ e; cases e), f5⟩, ⟨kv, k _ _ e2 (by intro _ _ _ e; cases e), ⟨e3.nd, e3.ks, fun p q v hv => ?_, e3.is_⟩⟩, g.ne⟩
  · rcases f3.at_ X with h | ⟨l, vs, a1, a2, a3⟩
    · exact .inl h
    · exact .inr ⟨l, vs, a1, k _ _ a2 (by intro _ _ _ e; cases e), Rows3.mono a3 im⟩
  · obtain ⟨l, e, h4⟩ := e3.at_ p q v hv
    exact ⟨l, e, k _ _ h4 (by intro _ _ _ e; cases e)⟩
theorem SumsAt.same (s : SumsAt K H sa A z rs lo hi T) (e : Same H H') : SumsAt K H' sa A z rs lo hi T := by
  obtain ⟨dx, h1⟩ := s.ob
  obtain ⟨kv, h2, h3⟩ := s.od
  obtain ⟨kv2, h4, h5⟩ := s.td
  exact ⟨⟨dx, e _ _ h1⟩, s.gp.same e, e _ _ s.rb, ⟨kv, e _ _ h2, h3⟩, ⟨kv2, e _ _ h4, h5⟩, s.ne, s.rg⟩
theorem SumsAt.mono (s : SumsAt K H sa A z rs lo hi T) (m : ∀ a b, T' a b → T a b) : SumsAt K H sa A z rs lo hi T' := by
  obtain ⟨kv, h2, h3⟩ := s.od
  obtain ⟨kv2, h4, h5⟩ := s.td
  exact ⟨s.ob, s.gp, s.rb, ⟨kv, h2, h3.mono m⟩, ⟨kv2, h4, h5.mono m⟩, s.ne, s.rg⟩
/-- both dicts anew -/
theorem SumsAt.anew (s : SumsAt K H sa A z rs lo hi T) (b : But [A.od, A.td] H H') (h1 : ∃ kv, H' A.od = some (.dT kv) ∧ SumOk kv (ord (pr z rs)) T') (h2 : ∃ kv, H' A.td = some (.dT kv) ∧ SumOk kv (tre (pr z rs)) T') : SumsAt K H' sa A z rs lo hi T' := by
  obtain ⟨dx, e1⟩ := s.ob
  obtain ⟨kv, e2, e3⟩ := s.od
  obtain ⟨kv2, e4, e5⟩ := s.td
  obtain ⟨n1, n2, n3, n4, n5⟩ := s.ne
  have hL : ∀ a ∈ [A.od, A.td], ∃ kv, H a = some (.dT kv) := fun a ha => by
    simp at ha
    rcases ha with rfl | rfl
    · exact ⟨_, e2⟩
    · exact ⟨_, e4⟩
  have k : ∀ a o, H a = some o → (∀ q, o ≠ .dT q) → H' a = some o := fun a o e n => b a o (fun m => by obtain ⟨q, e'⟩ := hL a m; rw [e'] at e; cases e; exact n _ rfl) e
  refine ⟨⟨dx, k _ _ e1 (by intro q e; cases e)⟩, s.gp.frame b hL (by simp; exact ⟨n2.symm, n4.symm⟩) (by simp; exact ⟨n3.symm, n5.symm⟩), k _ _ s.rb (by intro q e; cases e), h1, h2, s.ne, s.rg⟩
end
theorem sum_cast {α : Type} (f : α → Nat) : ∀ l : List α, (((l.map f).sum : Nat) : Int) = (l.map fun x => ((f x : Nat) : Int)).sum
  | [] => rfl
  | a :: l => by rw [List.map_cons, List.sum_cons, List.map_cons, List.sum_cons, Int.natCast_add, sum_cast f l]
theorem sc_Sums_init : FnScope ["self", "found", "low", "high", "wide", "first"] ["self", "found", "low", "high"] (defScope s_Sums_init) := ⟨rfl, rfl, rfl, by decide +kernel, rfl, by decide +kernel, by decide +kernel⟩
theorem bd_Sums_init : Bnd d_Sums_init ["self", "found", "low", "high"] := fun _ _ _ _ _ _ us hl => match us, hl with | [_, _, _, _], _ => rfl
theorem sc_Sums_lasts : FnScope ["self", "low", "high"] ["self", "low", "high"] (defScope s_Sums_lasts) := ⟨rfl, rfl, rfl, by decide +kernel, rfl, by decide +kernel, by decide +kernel⟩
theorem bd_Sums_lasts : Bnd d_Sums_lasts ["self", "low", "high"] := fun _ _ _ _ _ _ us hl => match us, hl with | [_, _, _], _ => rfl
theorem sc_Sums_orders_with : FnScope ["self", "low", "high", "last", "both_sides"] ["self", "low", "high", "last"] (defScope s_Sums_orders_with) := ⟨rfl, rfl, rfl, by decide +kernel, rfl, by decide +kernel, by decide +kernel⟩
theorem bd_Sums_orders_with : Bnd d_Sums_orders_with ["self", "low", "high", "last"] := fun _ _ _ _ _ _ us hl => match us, hl with | [_, _, _, _], _ => rfl
theorem sc_Sums_sum_up : FnScope ["self", "low", "high", "some", "is_empty", "trees", "last"] ["self", "low", "high"] (defScope s_Sums_sum_up) := ⟨rfl, rfl, rfl, by decide +kernel, rfl, by decide +kernel, by decide +kernel⟩
theorem bd_Sums_sum_up : Bnd d_Sums_sum_up ["self", "low", "high"] := fun _ _ _ _ _ _ us hl => match us, hl with | [_, _, _], _ => rfl
theorem sc_sums_of : FnScope ["word", "book", "p", "q"] ["word", "book", "p", "q"] (defScope s_sums_of) := ⟨rfl, rfl, rfl, by decide +kernel, rfl, by decide +kernel, by decide +kernel⟩
theorem bd_sums_of : Bnd d_sums_of ["word", "book", "p", "q"] := fun _ _ _ _ _ _ us hl => match us, hl with | [_, _, _, _], _ => rfl
theorem sc_how_many_orders : FnScope ["word", "book", "p", "q"] ["word", "book", "p", "q"] (defScope s_how_many_orders) := ⟨rfl, rfl, rfl, by decide +kernel, rfl, by decide +kernel, by decide +kernel⟩
theorem bd_how_many_orders : Bnd d_how_many_orders ["word", "book", "p", "q"] := fun _ _ _ _ _ _ us hl => match us, hl with | [_, _, _, _], _ => rfl
def FullS (lo hi : Int) : Int → Int → Prop := fun a b => lo ≤ a ∧ b ≤ hi ∧ a < b
def spLasts (K : PySem.W.Frag) : Sp := fun vs H Q _ => ∃ sa A z rs lo hi T, ∃ p q : Int, vs = [.ref sa, .int p, .int q] ∧ SumsAt K H sa A z rs lo hi T ∧ lo ≤ p ∧ p < q ∧ q ≤ hi ∧
  ∀ l H', Same H H' → H' l = some (.lst ((roots (pr z rs) p q).map V.int)) → Q (.ref l) H'
def spOrdersWith (K : PySem.W.Frag) : Sp := fun vs H Q _ => ∃ sa A z rs lo hi T, ∃ p q x : Int, vs = [.ref sa, .int p, .int q, .int x] ∧ SumsAt K H sa A z rs lo hi T ∧ lo ≤ p ∧ p < x ∧ x < q ∧ q ≤ hi ∧ T p x ∧ T x q ∧
  ∀ H', Same H H' → Q (.int ((ordW (pr z rs) p q x : Nat) : Int)) H'
def spSumUp (K : PySem.W.Frag) : Sp := fun vs H Q _ => ∃ sa A z rs lo hi T, ∃ p q : Int, vs = [.ref sa, .int p, .int q] ∧ SumsAt K H sa A z rs lo hi T ∧ lo ≤ p ∧ p < q ∧ q ≤ hi ∧ (∀ a b, p ≤ a → b ≤ q → a < b → b - a < q - p → T a b) ∧
  ∀ H', But [A.od, A.td] H H' → SumsAt K H' sa A z rs lo hi (fun a b => T a b ∨ (a = p ∧ b = q)) → Q .non H'
def spSumsInit (K : PySem.W.Frag) : Sp := fun vs H Q _ => ∃ a dx ga fa rd cd ro z rs, ∃ lo hi : Int, vs = [.ref a, .ref ga, .int lo, .int hi] ∧ H a = some (.ins (cSums K) dx []) ∧ GapsAt K H ga fa rd cd ro z rs (Full lo hi) ∧ a ≠ ga ∧ a ≠ fa ∧ -1 ≤ lo ∧ lo < hi ∧ hi ≤ (z.cps.size : Int) ∧
  ∀ A H', But [a] H H' → SumsAt K H' a A z rs lo hi (FullS lo hi) → Q .non H'
def spSumsOf (K : PySem.W.Frag) : Sp := fun vs H Q _ => ∃ (z : Str) (bp : Addr) (xs : List V) (rs : List Rule) (p q : Int), vs = [.str z, .ref bp, .int p, .int q] ∧ GoodW z ∧ GoodB rs ∧ BookAt K H bp xs rs ∧ -1 ≤ p ∧ p < q ∧ q ≤ (z.cps.size : Int) ∧
  ∀ sa A H', Same H H' → SumsAt K H' sa A z rs p q (FullS p q) → Q (.ref sa) H'
def spHowMany (K : PySem.W.Frag) : Sp := fun vs H Q _ => ∃ (z : Str) (bp : Addr) (xs : List V) (rs : List Rule) (p q : Int), vs = [.str z, .ref bp, .int p, .int q] ∧ GoodW z ∧ GoodB rs ∧ BookAt K H bp xs rs ∧ -1 ≤ p ∧ p < q ∧ q ≤ (z.cps.size : Int) ∧
  ∀ H', Same H H' → Q (.int ((ord (pr z rs) p q : Nat) : Int)) H'
section
variable {W : Wd} (Z : Hd W)
include Z
theorem ok_Sums_lasts : CalM W 1 "Sums" "lasts" ["self", "low", "high"] (spLasts W.K) := by
  refine calm_mk (d := d_Sums_lasts) Z.t_Sums_lasts Z.d_Sums_lasts sc_Sums_lasts bd_Sums_lasts (fun vs H Q E h => ?_) fun f cdv A outer s H vs Q E hr h => ?_
  · obtain ⟨_, _, _, _, _, _, _, _, _, rfl, _⟩ := h; rfl
  obtain ⟨sa, A, z, rs, lo, hi, T, p, q, rfl, s, hp, hpq, hq, k⟩ := h
  refine ⟨_, pss_one (ps_ret (pe_dget2 (hu_of hr) (k_fld W.K (k_fld W.K (pv 0))) (pe_tup (pa_cons (pv 1) (pa_cons (pv 2) pa_nil))) (pe_lst pa_nil) ⟨by rfl, by rfl, by rfl, by rfl⟩)), ?_⟩
  obtain ⟨dx, ho⟩ := s.ob
  obtain ⟨dxg, hog⟩ := s.gp.ob
  obtain ⟨kv, hro, hR⟩ := s.gp.ro_
  refine ⟨_, rfl, sa, _, _, _, _, rfl, ho, Z.c_Sums, Z.n_gaps_by, rfl, A.ga, _, _, _, _, rfl, hog, Z.c_Gaps, Z.n_own_roots, rfl, A.ro, rfl, .inr ⟨kv, .inl hro⟩, _, rfl, _, rfl, by show 2 ≤ sizeLine; decide, fun t ht => ?_⟩
  have g1 := same_new ht (.tup [.int p, .int q])
  refine ⟨by show 0 ≤ sizeLine; decide, fun l0 hl0 => ?_⟩
  have g2 := g1.trans (same_new hl0 (.lst []))
  refine ⟨_, DGet.t (k := gapK p q) (g2 _ _ hro) (same_new hl0 _ _ _ upd_same), ?_⟩
  cases hv : valV kv (gapK p q) with
  | some v =>
    obtain ⟨l, rfl, hl⟩ := hR.at_ p q v hv
    exact k l _ g2 (g2 _ _ hl)
  | none =>
    refine k l0 _ g2 ?_
    have hw : q - p = 1 := by
      by_cases c : q - p = 1
      · exact c
      · have := hR.is_ p q ⟨hp, hq, by omega⟩
        rw [hv] at this
        cases this
    have hr : roots (pr z rs) p q = [] := List.eq_nil_iff_forall_not_mem.mpr fun x hx => by
      have hx := mem_roots.mp hx
      omega
    rw [upd_same, hr]
    rfl
theorem ok_Sums_orders_with : CalM W 2 "Sums" "orders_with" ["self", "low", "high", "last"] (spOrdersWith W.K) := by
  refine calm_mk (d := d_Sums_orders_with) Z.t_Sums_orders_with Z.d_Sums_orders_with sc_Sums_orders_with bd_Sums_orders_with (fun vs H Q E h => ?_) fun f cdv A outer s H vs Q E hr h => ?_
  · obtain ⟨_, _, _, _, _, _, _, _, _, _, rfl, _⟩ := h; rfl
  obtain ⟨sa, A, z, rs, lo, hi, T, p, q, x, rfl, s, hp, hpx, hxq, hq, t1, t2, k⟩ := h
  refine ⟨_, pss_cons (ps_set (i := 4) sc_Sums_orders_with.nd rfl (Or.inl rfl) (pe_op op_mulW (pe_dget (hu_of hr) (k_fld W.K (pv 0)) (pe_tup (pa_cons (pv 1) (pa_cons (pv 3) pa_nil))) (fun _ _ => rfl)) (pe_dget (hu_of hr) (k_fld W.K (pv 0)) (pe_tup (pa_cons (pv 3) (pa_cons (pv 2) pa_nil))) (fun _ _ => rfl))))
      (pss_one (ps_ret (pe_op op_mulW (pv 4) (pe_cal (ok_times_over Z) (hr.mono (by decide)) (pa_cons (k_fld W.K (pv 0)) (pa_cons (pe_op op_sub (pe_op op_sub (pv 3) (pv 1)) pe_int) (pa_cons (pe_op op_sub (pe_op op_sub (pv 2) (pv 3)) pe_int) pa_nil))))))), ?_⟩
  obtain ⟨dx, ho⟩ := s.ob
  obtain ⟨kv, hod, hO⟩ := s.od
  have hr1 := s.rg
  have hl := s.gp.gw.len
  refine ⟨_, rfl, sa, _, _, _, _, rfl, ho, Z.c_Sums, Z.n_orders_by, rfl, _, rfl, _, rfl, by show 2 ≤ sizeLine; decide, fun ta hta => ?_⟩
  have g1 := same_new hta (.tup [.int p, .int x])
  refine ⟨A.od, .int ((ord (pr z rs) p x : Nat) : Int), rfl, by rw [← hO.get t1]; exact DGet.t (k := gapK p x) (g1 _ _ hod) upd_same, ?_⟩
  refine ⟨_, rfl, sa, _, _, _, _, rfl, g1 _ _ ho, Z.c_Sums, Z.n_orders_by, rfl, _, rfl, _, rfl, by show 2 ≤ sizeLine; decide, fun tb htb => ?_⟩
  have g2 := g1.trans (same_new htb (.tup [.int x, .int q]))
  refine ⟨A.od, .int ((ord (pr z rs) x q : Nat) : Int), rfl, by rw [← hO.get t2]; exact DGet.t (k := gapK x q) (g2 _ _ hod) upd_same, ?_⟩
  have l1 := ord_lt (pr := pr z rs) hpx (by omega)
  have l2 := ord_lt (pr := pr z rs) hxq (by omega)
  refine ⟨_, _, rfl, rfl, wide_mul (natW l1) (natW l2) (by decide) (by decide) (by decide), ?_⟩
  refine ⟨_, rfl, _, rfl, sa, _, _, _, _, rfl, g2 _ _ ho, Z.c_Sums, Z.n_rows_by, rfl, _, rfl, _, rfl, _, _, rfl, rfl, _, _, rfl, rfl, _, rfl, _, rfl, _, _, rfl, rfl, _, _, rfl, rfl, ?_⟩
  refine ⟨A.rb, (hi - lo).toNat + 1, x - p - 1, q - x - 1, rfl, g2 _ _ s.rb, by omega, by omega, by omega, by omega, ?_⟩
  have l3 : bin (x - p - 1).toNat (q - x - 1).toNat < 2 ^ 900 := Nat.lt_of_le_of_lt (bin_le _ _) (fac_lt (by omega))
  refine ⟨_, _, rfl, rfl, wide_mul (wide_lt (natW l1) (natW l2)) (natW l3) (by decide) (by decide) (by decide), ?_⟩
  have e : ((ord (pr z rs) p x : Nat) : Int) * ((ord (pr z rs) x q : Nat) : Int) * ((bin (x - p - 1).toNat (q - x - 1).toNat : Nat) : Int) = ((ordW (pr z rs) p q x : Nat) : Int) := by
    unfold ordW
    rw [Int.natCast_mul, Int.natCast_mul]
  show Q (.int (((ord (pr z rs) p x : Nat) : Int) * ((ord (pr z rs) x q : Nat) : Int) * ((bin (x - p - 1).toNat (q - x - 1).toNat : Nat) : Int))) _
  rw [e]
  exact k _ g2
theorem ok_Sums_sum_up : CalM W 3 "Sums" "sum_up" ["self", "low", "high"] (spSumUp W.K) := by
  refine calm_mk (d := d_Sums_sum_up) Z.t_Sums_sum_up Z.d_Sums_sum_up sc_Sums_sum_up bd_Sums_sum_up (fun vs H Q E h => ?_) fun f cdv A outer s H vs Q E hr h => ?_
  · obtain ⟨_, _, _, _, _, _, _, _, _, rfl, _⟩ := h; rfl
  obtain ⟨sa, A, z, rs, lo, hi, T, p, q, rfl, s, hp, hpq, hq, hT, k⟩ := h
  refine ⟨_, pss_cons (ps_par (i := 3) (j := 4) (by rfl) sc_Sums_sum_up.nd rfl rfl (by decide) rfl rfl (pa_cons (k_calm W.K (ok_Sums_lasts Z) Z.c_Sums (hr.mono (by decide)) (pv 0) (pa_cons (pv 1) (pa_cons (pv 2) pa_nil))) (pa_cons (pe_callTy call_int1 (by rfl) Z.m_int (by decide +kernel) (pa_cons (pe_cmpR op_eq (pv 2) (pe_op op_add (pv 1) pe_int) (nomark _)) pa_nil)) pa_nil)) (by rfl))
      (pss_cons (ps_setLc (i := 5) (own := [("last", 6)]) (g := gName 6) rfl sc_Sums_sum_up.nd rfl rfl (sw_true rfl rfl rfl (by decide +kernel)) (k_list W.K (pv 3)) (blkOk_by (own := [("last", 6)]) (N := ["self", "low", "high", "some", "is_empty", "trees", "last"]) (sc := defScope s_Sums_sum_up) (by decide +kernel)) (fun _ _ _ _ _ => pg_name (i := 6) sc_Sums_sum_up.nd rfl (Or.inl rfl)) (fun _ _ _ _ _ => pts_nil) (fun _ _ _ _ _ => (pe_op op_mulW (pe_dget (hu_of hr) (k_fld W.K (pv 0)) (pe_tup (pa_cons (pv 1) (pa_cons (pv 6) pa_nil))) (fun _ _ => rfl)) (pe_dget (hu_of hr) (k_fld W.K (pv 0)) (pe_tup (pa_cons (pv 6) (pa_cons (pv 2) pa_nil))) (fun _ _ => rfl)))))
      (pss_cons (ps_dput (hu_of hr) (k_fld W.K (pv 0)) (pe_tup (pa_cons (pv 1) (pa_cons (pv 2) pa_nil))) (pe_op op_add (pv 4) (pe_callB (k_sum W.K) (by rfl) Z.m_sum (by decide +kernel) (pa_cons (pe_lc (own := [("last", 6)]) (g := gName 6) rfl sc_Sums_sum_up.nd (k_list W.K (pv 3)) (blkOk_by (own := [("last", 6)]) (N := ["self", "low", "high", "some", "is_empty", "trees", "last"]) (sc := defScope s_Sums_sum_up) (by decide +kernel)) (fun _ _ _ _ _ => pg_name (i := 6) sc_Sums_sum_up.nd rfl (Or.inl rfl)) (fun _ _ _ _ _ => pts_nil) (fun _ _ _ _ _ => (k_calm W.K (ok_Sums_orders_with Z) Z.c_Sums (hr.mono (by decide)) (pv 0) (pa_cons (pv 1) (pa_cons (pv 2) (pa_cons (pv 6) pa_nil)))))) pa_nil))) (by rfl))
      (pss_one (ps_dput (hu_of hr) (k_fld W.K (pv 0)) (pe_tup (pa_cons (pv 1) (pa_cons (pv 2) pa_nil))) (pe_op op_add (pv 4) (pe_callB (k_sum W.K) (by rfl) Z.m_sum (by decide +kernel) (pa_cons (pv 5) pa_nil))) (by rfl))))), ?_⟩
  obtain ⟨dx, ho⟩ := s.ob
  have hr1 := s.rg
  have hl := s.gp.gw.len
  obtain ⟨n1, n2, n3, n4, n5⟩ := s.ne
  refine ⟨_, rfl, sa, dx, _, rfl, ho, rfl, _, rfl, _, rfl, sa, A, z, rs, lo, hi, T, p, q, rfl, s, hp, hpq, hq, fun l H1 g1 hls => ?_⟩
  refine ⟨_, rfl, _, rfl, _, _, rfl, rfl, rfl, .inr ⟨_, rfl, _, _, rfl, ?_⟩⟩
  have e0 : (if decide (V.int q = V.int (p + 1)) = true then (1 : Int) else 0) = (((if q = p + 1 then 1 else 0 : Nat)) : Int) := by
    by_cases c : q = p + 1
    · rw [if_pos (decide_eq_true (by rw [c])), if_pos c]; rfl
    · rw [if_neg (fun h => c (V.int.inj (of_decide_eq_true h))), if_neg c]; rfl
  have hrl := roots_len (pr := pr z rs) p q
  have s1 := s.same g1
  refine ⟨_, rfl, l, rfl, ⟨_, SqL.of hls⟩, fun D hD => ?_⟩
  refine lcF_list (roots (pr z rs) p q) (fun _ => true) (fun x => .int ((tre (pr z rs) p x * tre (pr z rs) x q : Nat) : Int)) hD (SqL.of hls) (by rw [List.length_map]) (by omega) (fun i y x hy hx H2 R N g2 hR _ => ?_) (fun H2 g2 hD2 => ?_)
  · obtain rfl := mapI2 hy hx
    have hx' := mem_roots.mp (List.mem_of_getElem? hx)
    have s2 := s1.same g2
    obtain ⟨dx2, ho2⟩ := s2.ob
    obtain ⟨kv, htd, hO⟩ := s2.td
    refine ⟨rfl, _, rfl, sa, _, _, _, _, rfl, ho2, Z.c_Sums, Z.n_trees_by, rfl, _, rfl, _, rfl, by show 2 ≤ sizeLine; decide, fun ta hta => ?_⟩
    have k1 := same_new hta (.tup [.int p, .int x])
    refine ⟨A.td, .int ((tre (pr z rs) p x : Nat) : Int), rfl, by rw [← hO.get (hT p x (by omega) (by omega) (by omega) (by omega))]; exact DGet.t (k := gapK p x) (k1 _ _ htd) upd_same, ?_⟩
    refine ⟨_, rfl, sa, _, _, _, _, rfl, k1 _ _ ho2, Z.c_Sums, Z.n_trees_by, rfl, _, rfl, _, rfl, by show 2 ≤ sizeLine; decide, fun tb htb => ?_⟩
    have k2 := k1.trans (same_new htb (.tup [.int x, .int q]))
    refine ⟨A.td, .int ((tre (pr z rs) x q : Nat) : Int), rfl, by rw [← hO.get (hT x q (by omega) (by omega) (by omega) (by omega))]; exact DGet.t (k := gapK x q) (k2 _ _ htd) upd_same, ?_⟩
    have l1 := tre_lt (pr := pr z rs) (p := p) (q := x) (by omega) (by omega)
    have l2 := tre_lt (pr := pr z rs) (p := x) (q := q) (by omega) (by omega)
    refine ⟨_, _, rfl, rfl, wide_mul (natW l1) (natW l2) (by decide) (by decide) (by decide), ?_⟩
    have := hR rfl _ k2
    rw [Int.natCast_mul] at this
    exact this
  · have g12 := g1.trans g2
    have s2 := s1.same g2
    have hl2 := g2 _ _ hls
    refine ⟨_, rfl, _, rfl, l, rfl, ⟨_, SqL.of hl2⟩, fun D2 hD20 => ?_⟩
    refine lcF_list (roots (pr z rs) p q) (fun _ => true) (fun x => .int ((ordW (pr z rs) p q x : Nat) : Int)) hD20 (SqL.of hl2) (by rw [List.length_map]) (by omega) (fun i y x hy hx H3 R N g3 hR _ => ?_) (fun H3 g3 hD3 => ?_)
    · obtain rfl := mapI2 hy hx
      have hx' := mem_roots.mp (List.mem_of_getElem? hx)
      have s3 := s2.same g3
      obtain ⟨dx3, ho3⟩ := s3.ob
      exact ⟨rfl, _, rfl, sa, dx3, _, rfl, ho3, rfl, _, rfl, _, rfl, _, rfl, sa, A, z, rs, lo, hi, T, p, q, x, rfl, s3, hp, by omega, by omega, hq, hT p x (by omega) (by omega) (by omega) (by omega), hT x q (by omega) (by omega) (by omega) (by omega), fun H4 g4 => hR rfl _ g4⟩
    · have s3 := s2.same g3
      have hDt := g3 _ _ hD2
      rw [filter_tt] at hD3 hDt
      obtain ⟨dx3, ho3⟩ := s3.ob
      obtain ⟨kv, hod, hO⟩ := s3.od
      obtain ⟨kv2, htd, hO2⟩ := s3.td
      have eo : (if decide (V.int q = V.int (p + 1)) = true then (1 : Int) else 0) + ((roots (pr z rs) p q).map fun x => ((ordW (pr z rs) p q x : Nat) : Int)).sum = ((ord (pr z rs) p q : Nat) : Int) := by
        rw [e0, ord_eq hpq, Int.natCast_add, sum_cast]
      have et : (if decide (V.int q = V.int (p + 1)) = true then (1 : Int) else 0) + ((roots (pr z rs) p q).map fun x => ((tre (pr z rs) p x * tre (pr z rs) x q : Nat) : Int)).sum = ((tre (pr z rs) p q : Nat) : Int) := by
        rw [e0, tre_eq hpq, Int.natCast_add, sum_cast]
      refine ⟨D2, (roots (pr z rs) p q).map fun x => ((ordW (pr z rs) p q x : Nat) : Int), rfl, SqL.of (by rw [hD3, List.map_map]; rfl), _, _, rfl, rfl, ?_⟩
      refine ⟨_, rfl, sa, _, _, _, _, rfl, ho3, Z.c_Sums, Z.n_orders_by, rfl, _, rfl, _, rfl, by show 2 ≤ sizeLine; decide, fun ta hta => ?_⟩
      have k1 := same_new hta (.tup [.int p, .int q])
      have hod1 := k1 _ _ hod
      have htd1 := k1 _ _ htd
      have ho1 := k1 _ _ ho3
      have hDt1 := k1 _ _ hDt
      have hta1 : upd H3 ta (.tup [.int p, .int q]) ta = _ := upd_same
      generalize upd H3 ta (.tup [.int p, .int q]) = H4 at k1 hod1 htd1 ho1 hDt1 hta1
      have P1 : DPut H4 A.od (.ref ta) (V.int ((if decide (V.int q = V.int (p + 1)) = true then (1 : Int) else 0) + ((roots (pr z rs) p q).map fun x => ((ordW (pr z rs) p q x : Nat) : Int)).sum)) (upd H4 A.od (.dT (putK kv (gapK p q) (.int ((ord (pr z rs) p q : Nat) : Int))))) := by
        rw [eo]
        exact DPut.t (k := gapK p q) hod1 hta1 hO.len
      refine ⟨A.od, _, rfl, P1, ?_⟩
      clear P1
      generalize hH5 : upd H4 A.od (.dT (putK kv (gapK p q) (.int ((ord (pr z rs) p q : Nat) : Int)))) = H5
      have b5 : But [A.od] H4 H5 := by rw [← hH5]; exact But.put ((Same.refl H4).but _) List.mem_cons_self
      have hod5 : H5 A.od = some (.dT (putK kv (gapK p q) (.int ((ord (pr z rs) p q : Nat) : Int)))) := by rw [← hH5, upd_same]
      have ho5 : H5 sa = _ := b5 _ _ (by simp; intro e; rw [e, hod1] at ho1; cases ho1) ho1
      have htd5 : H5 A.td = _ := b5 _ _ (by simpa using n1.symm) htd1
      have hDt5 : H5 D = _ := b5 _ _ (by simp; intro e; rw [e, hod1] at hDt1; cases hDt1) hDt1
      refine ⟨_, rfl, _, rfl, D, (roots (pr z rs) p q).map fun x => ((tre (pr z rs) p x * tre (pr z rs) x q : Nat) : Int), rfl, SqL.of (by rw [hDt5, List.map_map]; rfl), _, _, rfl, rfl, ?_⟩
      refine ⟨_, rfl, sa, _, _, _, _, rfl, ho5, Z.c_Sums, Z.n_trees_by, rfl, _, rfl, _, rfl, by show 2 ≤ sizeLine; decide, fun tb htb => ?_⟩
      have k2 := same_new htb (.tup [.int p, .int q])
      have P2 : DPut (upd H5 tb (.tup [.int p, .int q])) A.td (.ref tb) (V.int ((if decide (V.int q = V.int (p + 1)) = true then (1 : Int) else 0) + ((roots (pr z rs) p q).map fun x => ((tre (pr z rs) p x * tre (pr z rs) x q : Nat) : Int)).sum)) (upd (upd H5 tb (.tup [.int p, .int q])) A.td (.dT (putK kv2 (gapK p q) (.int ((tre (pr z rs) p q : Nat) : Int))))) := by
        rw [et]
        exact DPut.t (k := gapK p q) (k2 _ _ htd5) upd_same hO2.len
      refine ⟨A.td, _, rfl, P2, ?_⟩
      have b6 : But [A.od, A.td] H4 (upd (upd H5 tb (.tup [.int p, .int q])) A.td (.dT (putK kv2 (gapK p q) (.int ((tre (pr z rs) p q : Nat) : Int))))) :=
        But.put (But.new (fun c o hc q' => b5 c o (fun m => hc (by simp at m; simp [m])) q') htb) (by simp)
      refine k _ (fun c o hc q' => b6 c o hc (k1 _ _ (g3 _ _ (g12 _ _ q')))) ((s3.same k1).anew b6 ⟨_, ?_, hO.put (by omega) (by omega) (by omega) (by omega)⟩ ⟨_, upd_same, hO2.put (by omega) (by omega) (by omega) (by omega)⟩)
      rw [upd_ne n1]
      exact k2 _ _ hod5
theorem ok_Sums_init : CalI W 4 "Sums" ["self", "found", "low", "high"] (spSumsInit W.K) := by
  refine cali_mk (d := d_Sums_init) Z.mk_Sums Z.g_Sums Z.d_Sums_init sc_Sums_init bd_Sums_init (fun vs H Q E h => ?_) fun f cdv A outer s H vs Q E hr h => ?_
  · obtain ⟨_, _, _, _, _, _, _, _, _, _, _, rfl, _⟩ := h; rfl
  obtain ⟨a, dx, ga, fa, rd, cd, ro, z, rs, lo, hi, rfl, ha, g, ne1, ne2, h1, h2, h3, k⟩ := h
  refine ⟨_, pss_cons (ps_fld (pv 0) (pv 1) (by rfl))
      (pss_cons (ps_fld (pv 0) (pe_cal (ok_all_rows Z) (hr.mono (by decide)) (pa_cons (pe_op op_sub (pv 3) (pv 2)) pa_nil)) (by rfl))
      (pss_cons (ps_asg (pe_tup (pa_cons pe_dnewT (pa_cons pe_dnewT pa_nil))) (pg_tup rfl (pgs_cons (k_pgfld W.K (pv 0)) (pgs_cons (k_pgfld W.K (pv 0)) pgs_nil))))
      (pss_one (ps_for PassesOwn.never rfl (pi_range2 (by rfl) Z.m_range (pa_cons pe_int (pa_cons (pe_op op_add (pe_op op_sub (pv 3) (pv 2)) pe_int) pa_nil))) (pg_name (i := 4) sc_Sums_init.nd rfl (Or.inl rfl)) (pss_one (ps_for PassesOwn.never rfl (pi_range2 (by rfl) Z.m_range (pa_cons (pv 2) (pa_cons (pe_op op_add (pe_op op_sub (pv 3) (pv 4)) pe_int) pa_nil))) (pg_name (i := 5) sc_Sums_init.nd rfl (Or.inl rfl)) (pss_one (ps_expr (k_calm W.K (ok_Sums_sum_up Z) Z.c_Sums (hr.mono (by decide)) (pv 0) (pa_cons (pv 5) (pa_cons (pe_op op_add (pv 5) (pv 4)) pa_nil))))))))))), ?_⟩
  have hl := g.gw.len
  refine ⟨_, rfl, _, rfl, a, _, dx, _, rfl, ha, Z.c_Sums, Z.n_gaps_by, by show 0 < 1000; decide, ?_⟩
  generalize hH1 : upd H a (.ins (cSums W.K) dx (putF "gaps_by" (.ref ga) [])) = H1
  have b1 : But [a] H H1 := by rw [← hH1]; exact But.put ((Same.refl H).but _) List.mem_cons_self
  have a1 : H1 a = some (.ins (cSums W.K) dx [("gaps_by", .ref ga)]) := by rw [← hH1, upd_same]; rfl
  refine ⟨_, rfl, _, rfl, _, _, rfl, rfl, (hi - lo).toNat, by rw [show (((hi - lo).toNat : Nat) : Int) = hi - lo by omega]; rfl, by omega, fun rb H2 g2 hrb0 hrb => ?_⟩
  have a2 := g2 _ _ a1
  have rba : rb ≠ a := fun e => by rw [e, a2] at hrb; cases hrb
  refine ⟨_, rfl, a, _, dx, _, rfl, a2, Z.c_Sums, Z.n_rows_by, by show 1 < 1000; decide, ?_⟩
  generalize hH3 : upd H2 a (.ins (cSums W.K) dx (putF "rows_by" (.ref rb) [("gaps_by", .ref ga)])) = H3
  have b3 : But [a] H H3 := by rw [← hH3]; exact But.put (b1.seq g2) List.mem_cons_self
  have a3 : H3 a = some (.ins (cSums W.K) dx [("gaps_by", .ref ga), ("rows_by", .ref rb)]) := by rw [← hH3, upd_same]; rfl
  have r3 : H3 rb = some (.lst ((facs ((hi - lo).toNat + 1)).map V.int)) := by rw [← hH3, upd_ne rba]; exact hrb
  refine fun od hod => ?_
  refine fun td htd => ⟨by show 2 ≤ sizeLine; decide, fun t ht => ?_⟩
  have hdt : od ≠ td := fun e => by rw [← e, upd_same] at htd; cases htd
  have htd3 : H3 td = none := by rw [← htd, upd_ne hdt.symm]
  have k4 : Same H3 (upd (upd (upd H3 od (.dT [])) td (.dT [])) t (.tup [.ref od, .ref td])) := ((same_new hod _).trans (same_new htd _)).trans (same_new ht _)
  have hto : t ≠ od := fun e => by rw [e, upd_ne hdt, upd_same] at ht; cases ht
  have htt : t ≠ td := fun e => by rw [e, upd_same] at ht; cases ht
  have o4 : upd (upd (upd H3 od (.dT [])) td (.dT [])) t (.tup [.ref od, .ref td]) od = some (.dT []) := by rw [upd_ne hto.symm, upd_ne hdt, upd_same]
  have t4 : upd (upd (upd H3 od (.dT [])) td (.dT [])) t (.tup [.ref od, .ref td]) td = some (.dT []) := by rw [upd_ne htt.symm, upd_same]
  refine ⟨t, _, rfl, SqT.of upd_same, rfl, ?_⟩
  generalize upd (upd (upd H3 od (.dT [])) td (.dT [])) t (.tup [.ref od, .ref td]) = H4 at k4 o4 t4
  have a4 := k4 _ _ a3
  have oa : od ≠ a := fun e => by rw [e, a4] at o4; cases o4
  have tda : td ≠ a := fun e => by rw [e, a4] at t4; cases t4
  refine ⟨_, _, rfl, _, rfl, a, _, dx, _, rfl, a4, Z.c_Sums, Z.n_orders_by, by show 2 < 1000; decide, ?_⟩
  refine ⟨_, _, rfl, _, rfl, a, _, dx, _, rfl, upd_same, Z.c_Sums, Z.n_trees_by, by show 3 < 1000; decide, rfl, ?_⟩
  rw [upd_upd]
  generalize hH5 : upd H4 a (.ins (cSums W.K) dx (putF "trees_by" (.ref td) (putF "orders_by" (.ref od) [("gaps_by", .ref ga), ("rows_by", .ref rb)]))) = H5
  have b5 : But [a] H H5 := by rw [← hH5]; exact But.put (b3.seq k4) List.mem_cons_self
  have e5 : H5 a = some (.ins (cSums W.K) dx [("gaps_by", .ref ga), ("rows_by", .ref rb), ("orders_by", .ref od), ("trees_by", .ref td)]) := by rw [← hH5, upd_same]; rfl
  have o5 : H5 od = some (.dT []) := by rw [← hH5, upd_ne oa]; exact o4
  have t5 : H5 td = some (.dT []) := by rw [← hH5, upd_ne tda]; exact t4
  have r5 : H5 rb = some (.lst ((facs ((hi - lo).toNat + 1)).map V.int)) := by rw [← hH5, upd_ne rba]; exact k4 _ _ r3
  have oF : H od = none := But.free b3 (by simpa using oa) hod
  have tF : H td = none := But.free b3 (by simpa using tda) htd3
  have g5 : GapsAt W.K H5 ga fa rd cd ro z rs (Full lo hi) := g.frameI b5 (fun c hc => by simp at hc; rw [hc]; exact ⟨_, _, _, ha⟩) (by simpa using ne1.symm) (by simpa using ne2.symm)
  obtain ⟨kvr, hro, _⟩ := g.ro_
  obtain ⟨kvc, hcd⟩ := g.cdT
  have S0 : SumsAt W.K H5 a ⟨ga, fa, rd, cd, ro, rb, od, td⟩ z rs lo hi (fun _ _ => False) :=
    ⟨⟨dx, e5⟩, g5, r5, ⟨[], o5, ⟨.nil, by simp, (fun p q v h => by cases h), (fun p q s => False.elim s)⟩⟩, ⟨[], t5, ⟨.nil, by simp, (fun p q v h => by cases h), (fun p q s => False.elim s)⟩⟩,
      ⟨hdt, ne_of_none hcd oF |>.symm, ne_of_none hro oF |>.symm, ne_of_none hcd tF |>.symm, ne_of_none hro tF |>.symm⟩, h1, h2, h3⟩
  refine ⟨_, rfl, _, rfl, _, _, rfl, rfl, _, _, rfl, rfl, _, _, rfl, ⟨by omega, by omega, by omega, by omega⟩, ?_⟩
  have fin : ∀ H', But [od, td] H5 H' → SumsAt W.K H' a ⟨ga, fa, rd, cd, ro, rb, od, td⟩ z rs lo hi (FullS lo hi) → Q .non H' := fun H' b6 s6 =>
    k _ H' (fun c o hc q' => b6 c o (by simp; exact ⟨ne_of_none q' oF, ne_of_none q' tF⟩) (b5 c o hc q')) s6
  refine for_range (fun i σ H' => (∃ w1 w2, σ = [some (.ref a), some (.ref ga), some (.int lo), some (.int hi), w1, w2]) ∧ But [od, td] H5 H' ∧ SumsAt W.K H' a ⟨ga, fa, rd, cd, ro, rb, od, td⟩ z rs lo hi (fun x y => lo ≤ x ∧ y ≤ hi ∧ x < y ∧ y - x < 1 + (i : Nat))) ⟨⟨_, _, rfl⟩, (Same.refl H5).but _, S0.mono fun x y h => by omega⟩ (fun i σ H' hi' q' => ?_) (fun σ H' q' => ?_)
  · obtain ⟨⟨w1, w2, rfl⟩, b6, s6⟩ := q'
    refine ⟨_, rfl, _, rfl, _, rfl, _, _, rfl, rfl, _, _, rfl, rfl, _, _, rfl, ⟨by omega, by omega, by omega, by omega⟩, ?_⟩
    refine for_range (fun j σ H2 => (∃ w2, σ = [some (.ref a), some (.ref ga), some (.int lo), some (.int hi), some (.int (1 + (i : Nat))), w2]) ∧ But [od, td] H5 H2 ∧ SumsAt W.K H2 a ⟨ga, fa, rd, cd, ro, rb, od, td⟩ z rs lo hi (fun x y => lo ≤ x ∧ y ≤ hi ∧ x < y ∧ (y - x < 1 + (i : Nat) ∨ (y - x = 1 + (i : Nat) ∧ x < lo + (j : Nat))))) ⟨⟨_, rfl⟩, b6, s6.mono fun x y h => by omega⟩ (fun j σ H2 hj q' => ?_) (fun σ H2 q' => ?_)
    · obtain ⟨⟨w2, rfl⟩, b7, s7⟩ := q'
      obtain ⟨dx7, ho7⟩ := s7.ob
      refine ⟨_, rfl, a, dx7, _, rfl, ho7, rfl, _, rfl, _, rfl, _, rfl, _, _, rfl, rfl, a, ⟨ga, fa, rd, cd, ro, rb, od, td⟩, z, rs, lo, hi, _, lo + (j : Nat), lo + (j : Nat) + (1 + (i : Nat)), rfl, s7, by omega, by omega, by omega, fun x y e1 e2 e3 e4 => by omega, fun H4 b8 s8 => ?_⟩
      exact ⟨⟨_, rfl⟩, fun c o hc q' => b8 c o hc (b7 c o hc q'), s8.mono fun x y h => by omega⟩
    · obtain ⟨⟨w2, rfl⟩, b7, s7⟩ := q'
      exact ⟨⟨_, _, rfl⟩, b7, s7.mono fun x y h => by omega⟩
  · obtain ⟨⟨w1, w2, rfl⟩, b6, s6⟩ := q'
    exact fin H' b6 (s6.mono fun x y h => by unfold FullS at h; omega)
theorem ok_sums_of : Cal W 7 "sums_of" ["word", "book", "p", "q"] (spSumsOf W.K) := by
  refine cal_mk (d := d_sums_of) Z.g_sums_of Z.d_sums_of sc_sums_of bd_sums_of (fun vs H Q E h => ?_) fun f cdv A outer s H vs Q E hr h => ?_
  · obtain ⟨_, _, _, _, _, _, rfl, _⟩ := h; rfl
  obtain ⟨z, bp, xs, rs, p, q, rfl, hz, hg, hb, hp, hpq, hq, k⟩ := h
  refine ⟨_, pss_one (ps_ret (pe_cali (ok_Sums_init Z) (hr.mono (by decide)) (pa_cons (pe_cal (ok_gaps_within Z) (hr.mono (by decide)) (pa_cons (pv 0) (pa_cons (pv 1) (pa_cons (pv 2) (pa_cons (pv 3) pa_nil))))) (pa_cons (pv 2) (pa_cons (pv 3) pa_nil))))), ?_⟩
  refine ⟨_, rfl, _, rfl, _, rfl, _, rfl, z, bp, xs, rs, p, q, rfl, hz, hg, hb, hp, hpq, hq, fun ga fa rd cd ro H1 g1 gp => ?_⟩
  refine ⟨_, rfl, _, rfl, fun a dx ha hdx hne => ?_⟩
  have n1 : Same H1 (upd (upd H1 dx (.own a)) a (.ins (cSums W.K) dx [])) := (same_new hdx _).trans (same_new (by rw [upd_ne hne.symm]; exact ha) _)
  obtain ⟨dxg, hog⟩ := gp.ob
  obtain ⟨dxf, hof⟩ := gp.ft.ob
  refine ⟨a, dx, ga, fa, rd, cd, ro, z, rs, p, q, rfl, upd_same, gp.same n1, (ne_of_none hog ha).symm, (ne_of_none hof ha).symm, hp, hpq, hq, fun A H2 b2 s2 => ⟨rfl, ?_⟩⟩
  exact k a A H2 (g1.trans (b2.same (fun c hc => by simp at hc; rw [hc]; exact ha) n1)) s2
theorem ok_how_many_orders : Cal W 8 "how_many_orders" ["word", "book", "p", "q"] (spHowMany W.K) := by
  refine cal_mk (d := d_how_many_orders) Z.g_how_many_orders Z.d_how_many_orders sc_how_many_orders bd_how_many_orders (fun vs H Q E h => ?_) fun f cdv A outer s H vs Q E hr h => ?_
  · obtain ⟨_, _, _, _, _, _, rfl, _⟩ := h; rfl
  obtain ⟨z, bp, xs, rs, p, q, rfl, hz, hg, hb, hp, hpq, hq, k⟩ := h
  refine ⟨_, pss_one (ps_ret (pe_dget (hu_of hr) (k_fld W.K (pe_cal (ok_sums_of Z) (hr.mono (by decide)) (pa_cons (pv 0) (pa_cons (pv 1) (pa_cons (pv 2) (pa_cons (pv 3) pa_nil)))))) (pe_tup (pa_cons (pv 2) (pa_cons (pv 3) pa_nil))) (fun _ _ => rfl))), ?_⟩
  refine ⟨_, rfl, _, rfl, _, rfl, _, rfl, z, bp, xs, rs, p, q, rfl, hz, hg, hb, hp, hpq, hq, fun sa A H1 g1 s => ?_⟩
  obtain ⟨dx, ho⟩ := s.ob
  obtain ⟨kv, hod, hO⟩ := s.od
  refine ⟨sa, _, _, _, _, rfl, ho, Z.c_Sums, Z.n_orders_by, rfl, _, rfl, _, rfl, by show 2 ≤ sizeLine; decide, fun t ht => ?_⟩
  have g2 := same_new ht (.tup [.int p, .int q])
  refine ⟨A.od, .int ((ord (pr z rs) p q : Nat) : Int), rfl, by rw [← hO.get (T := FullS p q) ⟨by omega, by omega, hpq⟩]; exact DGet.t (k := gapK p q) (g2 _ _ hod) upd_same, ?_⟩
  exact k _ (g1.trans g2)
end
end Sl
/-! SlMath3 -/
namespace Sl
/-! ### spots below a number -/
def cnt (sp : List Int) (i : Nat) : Nat := (sp.filter fun x => decide (x < (i : Int))).length
theorem cnt_succ : ∀ {sp : List Int} (i : Nat), sp.Nodup → cnt sp (i + 1) = cnt sp i + if (i : Int) ∈ sp then 1 else 0
  | [], _, _ => by simp [cnt]
  | x :: sp, i, h => by
    obtain ⟨h1, h2⟩ := List.nodup_cons.mp h
    have ih := cnt_succ i h2
    unfold cnt at ih ⊢
    rw [List.filter_cons, List.filter_cons]
    by_cases c : x = (i : Int)
    · subst c
      rw [if_pos (decide_eq_true (by omega)), if_neg (by simp), List.length_cons, ih, if_neg h1, if_pos List.mem_cons_self]
    · have hm : ((i : Int) ∈ x :: sp) ↔ (i : Int) ∈ sp := by
        rw [List.mem_cons]
        constructor
        · rintro (e | e)
          · exact absurd e.symm c
          · exact e
        · exact .inr
      by_cases c2 : x < (i : Int)
      · rw [if_pos (decide_eq_true (by omega)), if_pos (decide_eq_true c2), List.length_cons, List.length_cons, ih]
        simp only [hm]
        omega
      · rw [if_neg (by simp; omega), if_neg (by simp; omega), ih]
        simp only [hm]
theorem cnt_zero {sp : List Int} (h : ∀ x ∈ sp, 0 ≤ x) : cnt sp 0 = 0 := by
  unfold cnt
  rw [List.length_eq_zero_iff, List.filter_eq_nil_iff]
  intro x hx
  have := h x hx
  simp
  omega
theorem cnt_le (sp : List Int) (i : Nat) : cnt sp i ≤ sp.length := List.length_filter_le _ _
theorem cnt_all {sp : List Int} {n : Nat} (h : ∀ x ∈ sp, x < (n : Int)) : cnt sp n = sp.length := by
  unfold cnt
  rw [List.filter_eq_self.mpr fun x hx => decide_eq_true (h x hx)]
theorem cnt_up {sp : List Int} (h : sp.Nodup) (i : Nat) : ∀ k : Nat, cnt sp (i + k) ≤ cnt sp i + k
  | 0 => Nat.le_refl _
  | k + 1 => by
    have h1 := cnt_up h i k
    have h2 := cnt_succ (i + k) h
    rw [show i + (k + 1) = i + k + 1 by omega, h2]
    by_cases c : ((i + k : Nat) : Int) ∈ sp
    · rw [if_pos c]; omega
    · rw [if_neg c]; omega
theorem cnt_in {sp : List Int} {i : Nat} (h : sp.Nodup) (hi : (i : Int) ∈ sp) : cnt sp i < sp.length := by
  have h1 := cnt_succ i h
  rw [if_pos hi] at h1
  have := cnt_le sp (i + 1)
  omega
theorem cnt_out {sp : List Int} {i n : Nat} (h : sp.Nodup) (hn : ∀ x ∈ sp, x < (n : Int)) (hi : (i : Int) ∉ sp) (hlt : i < n) : i + sp.length < n + cnt sp i := by
  have h1 := cnt_succ i h
  rw [if_neg hi] at h1
  have h2 := cnt_up h (i + 1) (n - (i + 1))
  rw [show i + 1 + (n - (i + 1)) = n by omega, cnt_all hn] at h2
  omega
theorem cnt_add {sp : List Int} (i : Nat) (h : sp.Nodup) (c : ∀ x ∈ sp, 0 ≤ x) : cnt sp i ≤ i := by
  have := cnt_up h 0 i
  rwa [cnt_zero c, Nat.zero_add] at this
/-! ### orders of a gap -/
inductive Vord (pr : Pr) : Int → Int → List Int → Prop where
  | nil (p : Int) : Vord pr p (p + 1) []
  | snoc {p q x : Int} {o : List Int} (h1 : p < x) (h2 : x < q) (hp : (pr p x q).isSome = true) (hn : x ∉ o) (hl : Vord pr p x (o.filter fun y => decide (y < x))) (hr : Vord pr x q (o.filter fun y => decide (x < y))) : Vord pr p q (o ++ [x])
theorem Vord.lt {pr : Pr} {p q : Int} {o : List Int} (h : Vord pr p q o) : p < q := by
  cases h with
  | nil => omega
  | snoc h1 h2 => omega
theorem Vord.len {pr : Pr} {p q : Int} {o : List Int} (h : Vord pr p q o) : (o.length : Int) = q - p - 1 := by
  induction h with
  | nil p => simp; omega
  | @snoc p q x o h1 h2 hp hn hl hr ihl ihr =>
    have e : ∀ l : List Int, x ∉ l → l.length = (l.filter fun y => decide (y < x)).length + (l.filter fun y => decide (x < y)).length := by
      intro l
      induction l with
      | nil => intro _; rfl
      | cons a r ih =>
        intro hx
        have h3 := ih fun m => hx (List.mem_cons_of_mem _ m)
        have h4 : a ≠ x := fun e => hx (by rw [e]; exact List.mem_cons_self)
        rw [List.filter_cons, List.filter_cons, List.length_cons]
        by_cases c : a < x
        · rw [if_pos (decide_eq_true c), if_neg (by simp; omega), List.length_cons]
          omega
        · rw [if_neg (by simpa using c), if_pos (decide_eq_true (by omega)), List.length_cons]
          omega
    have := e o hn
    rw [List.length_append, List.length_singleton]
    omega
theorem Vord.mem {pr : Pr} {p q : Int} {o : List Int} (h : Vord pr p q o) : ∀ y, y ∈ o ↔ p < y ∧ y < q := by
  induction h with
  | nil p => intro y; simp; omega
  | @snoc p q x o h1 h2 hp hn hl hr ihl ihr =>
    intro y
    have a := ihl y
    have b := ihr y
    rw [List.mem_filter] at a b
    rw [List.mem_append, List.mem_singleton]
    simp only [decide_eq_true_eq] at a b
    constructor
    · rintro (h | rfl)
      · by_cases c : y < x
        · have := a.mp ⟨h, c⟩; omega
        · by_cases d : y = x
          · rw [d] at h; exact absurd h hn
          · have := b.mp ⟨h, by omega⟩; omega
      · omega
    · intro h
      by_cases c : y = x
      · exact .inr c
      · by_cases d : y < x
        · exact .inl (a.mpr ⟨h.1, d⟩).1
        · exact .inl (b.mpr ⟨by omega, h.2⟩).1
/-- the root is among those that may go last; its parts have orders: the sum is above 0 -/
theorem Vord.pos {pr : Pr} {p q : Int} {o : List Int} (h : Vord pr p q o) : 0 < ord pr p q ∧ opn pr p q = true := by
  induction h with
  | nil p =>
    refine ⟨?_, by rw [opn_eq, decide_eq_true (by omega)]; rfl⟩
    rw [ord_eq (by omega), if_pos rfl]
    omega
  | @snoc p q x o h1 h2 hp hn hl hr ihl ihr =>
    have hm : x ∈ roots pr p q := mem_roots.mpr ⟨h1, h2, hp, ihl.2, ihr.2⟩
    refine ⟨?_, ?_⟩
    · rw [ord_eq (by omega)]
      have h3 : 0 < ordW pr p q x := Nat.mul_pos (Nat.mul_pos ihl.1 ihr.1) (bin_pos _ _)
      have h4 : ∀ l : List Int, x ∈ l → ordW pr p q x ≤ (l.map fun x => ordW pr p q x).sum := by
        intro l
        induction l with
        | nil => intro m; cases m
        | cons a r ih =>
          intro m
          rw [List.map_cons, List.sum_cons]
          rcases List.mem_cons.mp m with e | e
          · rw [e]; omega
          · have := ih e; omega
      have := h4 _ hm
      omega
    · rw [opn_eq]
      cases hr : roots pr p q with
      | nil => rw [hr] at hm; cases hm
      | cons a b => simp
end Sl
/-! SlW7 -/
namespace Sl
open PySem PySem.Spec PyProof.Rows L2
theorem sc_times_at : FnScope ["rows", "number", "many", "whole", "found", "at", "here"] ["rows", "number", "many", "whole"] (defScope s_times_at) := ⟨rfl, rfl, rfl, by decide +kernel, rfl, by decide +kernel, by decide +kernel⟩
theorem bd_times_at : Bnd d_times_at ["rows", "number", "many", "whole"] := fun _ _ _ _ _ _ us hl => match us, hl with | [_, _, _, _], _ => rfl
theorem sc_order_in : FnScope ["sums", "low", "high", "number", "last", "here", "times", "rest", "less_number", "more_number", "less", "more", "spots", "at"] ["sums", "low", "high", "number"] (defScope s_order_in) := ⟨rfl, rfl, rfl, by decide +kernel, rfl, by decide +kernel, by decide +kernel⟩
theorem bd_order_in : Bnd d_order_in ["sums", "low", "high", "number"] := fun _ _ _ _ _ _ us hl => match us, hl with | [_, _, _, _], _ => rfl
theorem sc_order_by : FnScope ["word", "book", "p", "q", "number", "sums"] ["word", "book", "p", "q", "number"] (defScope s_order_by) := ⟨rfl, rfl, rfl, by decide +kernel, rfl, by decide +kernel, by decide +kernel⟩
theorem bd_order_by : Bnd d_order_by ["word", "book", "p", "q", "number"] := fun _ _ _ _ _ _ us hl => match us, hl with | [_, _, _, _, _], _ => rfl
def spTimesAt (K : PySem.W.Frag) : Sp := fun vs H Q _ => ∃ (l : Addr) (n : Nat) (num many whole : Int), vs = [.ref l, .int num, .int many, .int whole] ∧ H l = some (.lst ((facs n).map V.int)) ∧ n ≤ 122 ∧ 0 ≤ many ∧ many ≤ whole ∧ whole < n ∧ 0 ≤ num ∧ num < ((bin many.toNat (whole - many).toNat : Nat) : Int) ∧
  ∀ (sp : List Int) q H', Same H H' → (sp.length : Int) = many → sp.Nodup → (∀ x ∈ sp, 0 ≤ x ∧ x < whole) → H' q = some (.tup (sp.map V.int)) → Q (.ref q) H'
def spOrderIn (K : PySem.W.Frag) (n : Nat) : Sp := fun vs H Q _ => ∃ sa A z rs lo hi, ∃ p q num : Int, vs = [.ref sa, .int p, .int q, .int num] ∧ SumsAt K H sa A z rs lo hi (FullS lo hi) ∧ lo ≤ p ∧ p < q ∧ q ≤ hi ∧ (q - p).toNat ≤ n ∧ 0 ≤ num ∧ num < ((ord (pr z rs) p q : Nat) : Int) ∧
  ∀ o r H', Same H H' → Vord (pr z rs) p q o → H' r = some (.tup (o.map V.int)) → Q (.ref r) H'
def spOrderBy (K : PySem.W.Frag) : Sp := fun vs H Q _ => ∃ (z : Str) (bp : Addr) (xs : List V) (rs : List Rule) (p q num : Int), vs = [.str z, .ref bp, .int p, .int q, .int num] ∧ GoodW z ∧ GoodB rs ∧ BookAt K H bp xs rs ∧ -1 ≤ p ∧ p < q ∧ q ≤ (z.cps.size : Int) ∧ 0 ≤ num ∧ num < ((ord (pr z rs) p q : Nat) : Int) ∧
  ∀ o r H', Same H H' → Vord (pr z rs) p q o → H' r = some (.tup (o.map V.int)) → Q (.ref r) H'
theorem seq0 (n : Nat) : seqIndex? 0 (n + 1) = some 0 := by
  unfold seqIndex?
  simp
section
variable {W : Wd} (Z : Hd W)
include Z
theorem ok_times_at : Cal W 2 "times_at" ["rows", "number", "many", "whole"] (spTimesAt W.K) := by
  refine cal_mk (d := d_times_at) Z.g_times_at Z.d_times_at sc_times_at bd_times_at (fun vs H Q E h => ?_) fun f cdv A outer s H vs Q E hr h => ?_
  · obtain ⟨_, _, _, _, _, rfl, _⟩ := h; rfl
  obtain ⟨l, n, num, many, whole, rfl, hl, hn, hm0, hmw, hwn, hn0, hnb, k⟩ := h
  refine ⟨_, pss_cons (ps_par (i := 4) (j := 5) (by rfl) sc_times_at.nd rfl rfl (by decide) rfl rfl (pa_cons (pe_lst pa_nil) (pa_cons pe_int pa_nil)) (by rfl))
      (pss_cons (ps_while PassesOwn.never (pt_cmpR op_lt (pe_callB (k_len_seq W.K) (by rfl) Z.m_len (by decide +kernel) (pa_cons (pv 4) pa_nil)) (pv 2) (nomark _)) (pss_cons (ps_set (i := 6) sc_times_at.nd rfl (Or.inl rfl) (pe_cal (ok_times_over Z) (hr.mono (by decide)) (pa_cons (pv 0) (pa_cons (pe_op op_sub (pe_op op_sub (pv 2) (pe_callB (k_len_seq W.K) (by rfl) Z.m_len (by decide +kernel) (pa_cons (pv 4) pa_nil))) pe_int) (pa_cons (pe_op op_add (pe_op op_sub (pe_op op_sub (pv 3) (pv 5)) (pv 2)) (pe_callB (k_len_seq W.K) (by rfl) Z.m_len (by decide +kernel) (pa_cons (pv 4) pa_nil))) pa_nil)))))
      (pss_cons (ps_if (pt_cmpR op_lt (pv 1) (pv 6) (nomark _)) (pss_one (ps_expr (k_append W.K (pv 4) (pv 5)))) (pss_one (ps_aug (i := 1) sc_times_at.nd rfl (Or.inl rfl) (pv 6) ip_sub)))
      (pss_one (ps_aug (i := 5) sc_times_at.nd rfl (Or.inl rfl) pe_int ip_add)))))
      (pss_one (ps_ret (pe_callTy (k_tuple_of W.K) (by rfl) Z.m_tuple (by decide +kernel) (pa_cons (pv 4) pa_nil))))), ?_⟩
  refine ⟨by show 0 ≤ sizeLine; decide, fun fl hfl => ⟨_, _, rfl, ?_⟩⟩
  refine ⟨fun m σ H' => ∃ (num at_ : Int) (sp : List Int) (w : Option V), σ = [some (.ref l), some (.int num), some (.int many), some (.int whole), some (.ref fl), some (.int at_), w] ∧ Same H H' ∧ H' fl = some (.lst (sp.map V.int)) ∧
      m = (whole - at_).toNat ∧ (sp.length : Int) ≤ many ∧ 0 ≤ at_ ∧ many - sp.length ≤ whole - at_ ∧ sp.Nodup ∧ (∀ x ∈ sp, 0 ≤ x ∧ x < at_) ∧ 0 ≤ num ∧ num < ((bin (many - sp.length).toNat (whole - at_ - (many - sp.length)).toNat : Nat) : Int),
    ⟨_, num, 0, [], _, rfl, same_new hfl _, upd_same, rfl, by simpa using hm0, Int.le_refl _, by simp; omega, .nil, (fun x hx => by cases hx), hn0, by simpa using hnb⟩, fun m σ H' w => ?_⟩
  obtain ⟨num, at_, sp, w, rfl, g, hf, hme, h1, h2, h3, h4, h5, h6, h7⟩ := w
  have hspl : (sp.map V.int).length = sp.length := List.length_map _
  refine ⟨_, rfl, fl, _, rfl, .inl (SqL.of hf), _, rfl, _, _, rfl, rfl, _, rfl, ite2 (fun c => ?_) (fun c => ?_)⟩
  · have c1 : (sp.length : Int) < many := by have := of_decide_eq_true c; rw [hspl] at this; exact this
    refine ⟨fun σ' H2 => ∃ m', m' < m ∧ _, fun σ' H2 h => h, ?_⟩
    refine ⟨_, rfl, _, rfl, _, rfl, fl, _, rfl, .inl (SqL.of hf), _, _, rfl, rfl, _, _, rfl, rfl, ?_⟩
    refine ⟨_, rfl, _, rfl, _, _, rfl, rfl, _, rfl, _, _, rfl, rfl, _, rfl, fl, _, rfl, .inl (SqL.of hf), _, _, rfl, rfl, ?_⟩
    rw [hspl]
    refine ⟨l, n, many - (sp.length : Nat) - 1, whole - at_ - many + (sp.length : Nat), rfl, g _ _ hl, hn, by omega, by omega, by omega, ?_⟩
    have eA : (many - (sp.length : Int)).toNat = (many - (sp.length : Nat) - 1).toNat + 1 := by omega
    have eR : (whole - at_ - (many - (sp.length : Int))).toNat = (whole - at_ - many + (sp.length : Nat)).toNat := by omega
    rw [eA, eR] at h7
    generalize hA : (many - (sp.length : Nat) - 1).toNat = a at h7 eA
    generalize hR : (whole - at_ - many + (sp.length : Nat)).toNat = r at h7 eR
    refine ⟨_, rfl, _, rfl, _, _, rfl, rfl, _, rfl, ite2 (fun c2 => ?_) (fun c2 => ?_)⟩
    · have c3 : num < ((bin a r : Nat) : Int) := of_decide_eq_true c2
      refine ⟨_, rfl, .inl ⟨rfl, _, SqL.of hf⟩, _, rfl, fl, _, _, rfl, rfl, hf, sz_lt (by rw [List.length_map]; omega), _, rfl, _, _, rfl, rfl, (whole - (at_ + 1)).toNat, by omega, num, at_ + 1, sp ++ [at_], _, rfl, g.mutS hfl, by rw [upd_same, List.map_append]; rfl, rfl, ?_⟩
      have e1 : ((sp ++ [at_]).length : Int) = (sp.length : Int) + 1 := by rw [List.length_append]; rfl
      rw [e1]
      refine ⟨by omega, by omega, by omega, List.nodup_append.mpr ⟨h4, by simp, fun x hx y hy e => ?_⟩, fun x hx => ?_, h6, ?_⟩
      · simp at hy
        have := h5 x hx
        omega
      · rcases List.mem_append.mp hx with q | q
        · have := h5 x q; omega
        · simp at q; omega
      · rw [show (many - ((sp.length : Int) + 1)).toNat = a by omega, show (whole - (at_ + 1) - (many - ((sp.length : Int) + 1))).toNat = r by omega]
        exact c3
    · have c3 : ¬ num < ((bin a r : Nat) : Int) := of_decide_eq_false (Bool.eq_false_iff.mpr c2)
      cases r with
      | zero =>
        rw [bin_zero_r] at h7 c3
        omega
      | succ r =>
        rw [bin_succ] at h7
        refine ⟨_, rfl, _, rfl, _, _, rfl, rfl, _, rfl, _, _, rfl, rfl, (whole - (at_ + 1)).toNat, by omega, num - ((bin a (r + 1) : Nat) : Int), at_ + 1, sp, _, rfl, g, hf, rfl, h1, by omega, by omega, h4, fun x hx => ?_, by omega, ?_⟩
        · have := h5 x hx; omega
        · rw [eA, show (whole - (at_ + 1) - (many - (sp.length : Int))).toNat = r by omega]
          omega
  · have c1 : ¬ (sp.length : Int) < many := by have := of_decide_eq_false (Bool.eq_false_iff.mpr c); rw [hspl] at this; exact this
    refine ⟨_, rfl, fl, _, rfl, .inl ⟨SqL.of hf, fun q hq => k sp q _ (g.trans (same_new hq _)) (by omega) h4 (fun x hx => ?_) upd_same⟩⟩
    have := h5 x hx
    omega
theorem ok_order_in : ∀ n : Nat, Cal W (n + 4) "order_in" ["sums", "low", "high", "number"] (spOrderIn W.K n)
  | 0 => by
    refine cal_mk (d := d_order_in) Z.g_order_in Z.d_order_in sc_order_in bd_order_in (fun vs H Q E h => ?_) fun f cdv A outer s H vs Q E hr h => ?_
    · obtain ⟨_, _, _, _, _, _, _, _, _, rfl, _⟩ := h; rfl
    obtain ⟨sa, A, z, rs, lo, hi, p, q, num, rfl, s, h1, h2, h3, h4, _⟩ := h
    omega
  | n + 1 => by
    have ih := ok_order_in n
    refine cal_mk (d := d_order_in) Z.g_order_in Z.d_order_in sc_order_in bd_order_in (fun vs H Q E h => ?_) fun f cdv A outer s H vs Q E hr h => ?_
    · obtain ⟨_, _, _, _, _, _, _, _, _, rfl, _⟩ := h; rfl
    obtain ⟨sa, A, z, rs, lo, hi, p, q, num, rfl, s, h1, h2, h3, h4, h5, h6, k⟩ := h
    refine ⟨_, pss_cons (ps_if (pt_cmpR op_eq (pv 2) (pe_op op_add (pv 1) pe_int) (nomark _)) (pss_one (ps_ret (pe_tup pa_nil))) pss_nil)
        (pss_cons (ps_for PassesOwn.never rfl (k_list W.K (k_calm W.K (ok_Sums_lasts Z) Z.c_Sums (hr.mono (by omega)) (pv 0) (pa_cons (pv 1) (pa_cons (pv 2) pa_nil)))) (pg_name (i := 4) sc_order_in.nd rfl (Or.inl rfl)) (pss_cons (ps_set (i := 5) sc_order_in.nd rfl (Or.inl rfl) (k_calm W.K (ok_Sums_orders_with Z) Z.c_Sums (hr.mono (by omega)) (pv 0) (pa_cons (pv 1) (pa_cons (pv 2) (pa_cons (pv 4) pa_nil)))))
        (pss_cons (ps_if (pt_cmpR op_lt (pv 3) (pv 5) (nomark _)) (pss_one (ps_break)) pss_nil)
        (pss_one (ps_aug (i := 3) sc_order_in.nd rfl (Or.inl rfl) (pv 5) ip_sub)))))
        (pss_cons (ps_asg (pe_callB call_divmodW (by rfl) Z.m_divmod (by decide +kernel) (pa_cons (pv 3) (pa_cons (pe_op op_mulW (pe_dget (hu_of hr) (k_fld W.K (pv 0)) (pe_tup (pa_cons (pv 1) (pa_cons (pv 4) pa_nil))) (fun _ _ => rfl)) (pe_dget (hu_of hr) (k_fld W.K (pv 0)) (pe_tup (pa_cons (pv 4) (pa_cons (pv 2) pa_nil))) (fun _ _ => rfl))) pa_nil))) (pg_tup rfl (pgs_cons (pg_name (i := 6) sc_order_in.nd rfl (Or.inl rfl)) (pgs_cons (pg_name (i := 7) sc_order_in.nd rfl (Or.inl rfl)) pgs_nil))))
        (pss_cons (ps_asg (pe_callB call_divmodW (by rfl) Z.m_divmod (by decide +kernel) (pa_cons (pv 7) (pa_cons (pe_dget (hu_of hr) (k_fld W.K (pv 0)) (pe_tup (pa_cons (pv 4) (pa_cons (pv 2) pa_nil))) (fun _ _ => rfl)) pa_nil))) (pg_tup rfl (pgs_cons (pg_name (i := 8) sc_order_in.nd rfl (Or.inl rfl)) (pgs_cons (pg_name (i := 9) sc_order_in.nd rfl (Or.inl rfl)) pgs_nil))))
        (pss_cons (ps_set (i := 10) sc_order_in.nd rfl (Or.inr rfl) (pe_callTy (k_list_of W.K) (by rfl) Z.m_list (by decide +kernel) (pa_cons (pe_cal (ih) (hr.mono (by omega)) (pa_cons (pv 0) (pa_cons (pv 1) (pa_cons (pv 4) (pa_cons (pv 8) pa_nil))))) pa_nil)))
        (pss_cons (ps_set (i := 11) sc_order_in.nd rfl (Or.inr rfl) (pe_callTy (k_list_of W.K) (by rfl) Z.m_list (by decide +kernel) (pa_cons (pe_cal (ih) (hr.mono (by omega)) (pa_cons (pv 0) (pa_cons (pv 4) (pa_cons (pv 2) (pa_cons (pv 9) pa_nil))))) pa_nil)))
        (pss_cons (ps_set (i := 12) sc_order_in.nd rfl (Or.inr rfl) (pe_cal (ok_times_at Z) (hr.mono (by omega)) (pa_cons (k_fld W.K (pv 0)) (pa_cons (pv 6) (pa_cons (pe_callB (k_len_seq W.K) (by rfl) Z.m_len (by decide +kernel) (pa_cons (pv 10) pa_nil)) (pa_cons (pe_op op_add (pe_callB (k_len_seq W.K) (by rfl) Z.m_len (by decide +kernel) (pa_cons (pv 10) pa_nil)) (pe_callB (k_len_seq W.K) (by rfl) Z.m_len (by decide +kernel) (pa_cons (pv 11) pa_nil))) pa_nil))))))
        (pss_one (ps_ret (pe_op (k_op_catA W.K) (pe_callTy (k_tuple_of W.K) (by rfl) Z.m_tuple (by decide +kernel) (pa_cons (pe_lc (own := [("at", 13)]) (g := gName 13) rfl sc_order_in.nd (pi_range1 (by rfl) Z.m_range (pa_cons (pe_op op_sub (pe_op op_sub (pv 2) (pv 1)) pe_int) pa_nil)) (blkOk_by (own := [("at", 13)]) (N := ["sums", "low", "high", "number", "last", "here", "times", "rest", "less_number", "more_number", "less", "more", "spots", "at"]) (sc := defScope s_order_in) (by decide +kernel)) (fun _ _ _ _ _ => pg_name (i := 13) sc_order_in.nd rfl (Or.inl rfl)) (fun _ _ _ _ _ => pts_nil) (fun _ _ _ _ _ => (pe_ifExp (pt_cmpR (k_op_in_seq W.K) (pv 13) (pv 12) (by rfl)) (k_popAt W.K (pv 10) pe_int) (k_popAt W.K (pv 11) pe_int)))) pa_nil)) (pe_tup (pa_cons (pv 4) pa_nil))))))))))), ?_⟩
    obtain ⟨dx, ho⟩ := s.ob
    obtain ⟨kvo, hod, hO⟩ := s.od
    have hrg := s.rg
    have hzl := s.gp.gw.len
    refine ⟨_, rfl, _, rfl, _, _, rfl, rfl, rfl, _, rfl, ite2 (fun c => ?_) (fun c => ?_)⟩
    · have e := V.int.inj (of_decide_eq_true c)
      subst e
      exact ⟨by show 0 ≤ sizeLine; decide, fun r hr => k [] r _ (same_new hr _) (.nil p) upd_same⟩
    have hpq : ¬ q = p + 1 := fun e => c (decide_eq_true (congrArg V.int e))
    clear c
    refine ⟨_, rfl, sa, dx, _, rfl, ho, rfl, _, rfl, _, rfl, sa, A, z, rs, lo, hi, _, p, q, rfl, s, h1, h2, h3, fun l H1 g1 hl => ⟨l, rfl, ⟨_, SqL.of hl⟩, ?_⟩⟩
    refine for_list (xs := (roots (pr z rs) p q).map V.int) (fun i σ H' => ∃ (num' : Int) (w4 w5 : Option V), σ = [some (.ref sa), some (.int p), some (.int q), some (.int num'), w4, w5, none, none, none, none, none, none, none, none] ∧ Same H1 H' ∧ 0 ≤ num' ∧
        num' < (((((roots (pr z rs) p q).drop i).map fun x => ordW (pr z rs) p q x).sum : Nat) : Int)) ⟨num, _, _, rfl, Same.refl _, h5, ?_⟩ (fun i σ H' _ w => ?_) (fun i x σ H' hx w => ?_) (fun σ H' w => ?_)
    · rw [List.drop_zero]
      rw [ord_eq h2, if_neg hpq, Nat.zero_add] at h6
      exact h6
    · obtain ⟨_, _, _, _, g, _⟩ := w
      exact g.seq (SqL.of hl)
    · obtain ⟨num', w4, w5, rfl, g, hn0, hn1⟩ := w
      obtain ⟨x, hxn, rfl⟩ := mapI hx
      have hi' := (List.getElem?_eq_some_iff.mp hxn).1
      have hdr : (roots (pr z rs) p q).drop i = x :: (roots (pr z rs) p q).drop (i + 1) := by
        rw [← List.getElem_cons_drop (h := hi'), (List.getElem?_eq_some_iff.mp hxn).2]
      rw [hdr, List.map_cons, List.sum_cons, Int.natCast_add] at hn1
      have hxr := mem_roots.mp (List.mem_of_getElem? hxn)
      obtain ⟨hpx, hxq, hpx3, _, _⟩ := hxr
      have gA := g1.trans g
      have sA := s.same gA
      obtain ⟨dxA, hoA⟩ := sA.ob
      refine ⟨_, rfl, sa, dxA, _, rfl, hoA, rfl, _, rfl, _, rfl, _, rfl, sa, A, z, rs, lo, hi, _, p, q, x, rfl, sA, h1, hpx, hxq, h3, ⟨h1, by omega, hpx⟩, ⟨by omega, h3, hxq⟩, fun H2 g2 => ?_⟩
      refine ⟨_, rfl, _, rfl, _, _, rfl, rfl, _, rfl, ite2 (fun c => ?_) (fun c => ?_)⟩
      · have hlt : num' < ((ordW (pr z rs) p q x : Nat) : Int) := of_decide_eq_true c
        clear c hn1 hdr hx
        have gB := gA.trans g2
        have sB := sA.same g2
        obtain ⟨dxB, hoB⟩ := sB.ob
        have hodB := gB _ _ hod
        clear g2 hoA sA dxA gA g hl g1
        have l1 := ord_lt (pr := pr z rs) hpx (by omega)
        have l2 := ord_lt (pr := pr z rs) hxq (by omega)
        have hpos : 0 < ordW (pr z rs) p q x := by omega
        have hE1 : 0 < ord (pr z rs) p x := Nat.pos_of_ne_zero fun e => by unfold ordW at hpos; rw [e] at hpos; simp at hpos
        have hE2 : 0 < ord (pr z rs) x q := Nat.pos_of_ne_zero fun e => by unfold ordW at hpos; rw [e] at hpos; simp at hpos
        have hW : ((ordW (pr z rs) p q x : Nat) : Int) = ((ord (pr z rs) p x : Nat) : Int) * ((ord (pr z rs) x q : Nat) : Int) * ((bin (x - p - 1).toNat (q - x - 1).toNat : Nat) : Int) := by
          unfold ordW
          rw [Int.natCast_mul, Int.natCast_mul]
        rw [hW] at hlt
        have hN1 := hO.get (T := FullS lo hi) (p := p) (q := x) ⟨h1, by omega, hpx⟩
        have hN2 := hO.get (T := FullS lo hi) (p := x) (q := q) ⟨by omega, h3, hxq⟩
        generalize hn1 : ((ord (pr z rs) p x : Nat) : Int) = N1 at *
        generalize hn2 : ((ord (pr z rs) x q : Nat) : Int) = N2 at *
        have p1 : 0 < N1 := by omega
        have p2 : 0 < N2 := by omega
        have p12 : 0 < N1 * N2 := Int.mul_pos p1 p2
        have w1 : N1.natAbs < 2 ^ 900 := by rw [← hn1]; exact natW l1
        have w2 : N2.natAbs < 2 ^ 900 := by rw [← hn2]; exact natW l2
        refine ⟨_, rfl, _, rfl, sa, _, _, _, _, rfl, hoB, Z.c_Sums, Z.n_orders_by, rfl, _, rfl, _, rfl, by show 2 ≤ sizeLine; decide, fun ta hta => ?_⟩
        have k1 := same_new hta (.tup [.int p, .int x])
        refine ⟨A.od, .int N1, rfl, by rw [← hN1]; exact DGet.t (k := gapK p x) (k1 _ _ hodB) upd_same, ?_⟩
        refine ⟨_, rfl, sa, _, _, _, _, rfl, k1 _ _ hoB, Z.c_Sums, Z.n_orders_by, rfl, _, rfl, _, rfl, by show 2 ≤ sizeLine; decide, fun tb htb => ?_⟩
        have k2 := k1.trans (same_new htb (.tup [.int x, .int q]))
        refine ⟨A.od, .int N2, rfl, by rw [← hN2]; exact DGet.t (k := gapK x q) (k2 _ _ hodB) upd_same, ?_⟩
        have c1 := wide_div (i := num') p12 (wide_lt w1 w2) (by decide) (by decide)
        refine ⟨_, _, rfl, rfl, wide_mul w1 w2 (by decide) (by decide) (by decide), _, _, rfl, ⟨p12, PyProof.noPylong_of_log2 c1.2⟩, fun tc htc => ?_⟩
        have k3 := k2.trans (same_new htc (.tup [.int (num' / (N1 * N2)), .int (num' % (N1 * N2))]))
        refine ⟨tc, _, rfl, SqT.of upd_same, rfl, _, _, rfl, _, _, rfl, rfl, ?_⟩
        refine ⟨_, rfl, _, rfl, sa, _, _, _, _, rfl, k3 _ _ hoB, Z.c_Sums, Z.n_orders_by, rfl, _, rfl, _, rfl, by show 2 ≤ sizeLine; decide, fun td htd => ?_⟩
        have k4 := k3.trans (same_new htd (.tup [.int x, .int q]))
        refine ⟨A.od, .int N2, rfl, by rw [← hN2]; exact DGet.t (k := gapK x q) (k4 _ _ hodB) upd_same, ?_⟩
        have c2 := wide_div (i := num' % (N1 * N2)) p2 w2 (by decide) (by decide)
        refine ⟨_, _, rfl, ⟨p2, PyProof.noPylong_of_log2 c2.2⟩, fun te hte => ?_⟩
        have k5 := k4.trans (same_new hte (.tup [.int (num' % (N1 * N2) / N2), .int (num' % (N1 * N2) % N2)]))
        refine ⟨te, _, rfl, SqT.of upd_same, rfl, _, _, rfl, _, _, rfl, rfl, ?_⟩
        have m0 : 0 ≤ num' % (N1 * N2) := Int.emod_nonneg _ (by omega)
        have m1 : num' % (N1 * N2) < N1 * N2 := Int.emod_lt_of_pos _ p12
        have m2 : 0 ≤ num' % (N1 * N2) / N2 := Int.ediv_nonneg m0 (by omega)
        have m3 : num' % (N1 * N2) / N2 < N1 := Int.ediv_lt_of_lt_mul p2 m1
        have m4 : 0 ≤ num' % (N1 * N2) % N2 := Int.emod_nonneg _ (by omega)
        have m5 : num' % (N1 * N2) % N2 < N2 := Int.emod_lt_of_pos _ p2
        have m6 : 0 ≤ num' / (N1 * N2) := Int.ediv_nonneg hn0 (by omega)
        have m7 : num' / (N1 * N2) < ((bin (x - p - 1).toNat (q - x - 1).toNat : Nat) : Int) := Int.ediv_lt_of_lt_mul p12 (by rw [Int.mul_comm]; exact hlt)
        have s5 := sB.same k5
        have g5 := gB.trans k5
        generalize upd (upd (upd (upd (upd H2 ta _) tb _) tc _) td _) te _ = H5 at k5 s5 g5
        generalize num' % (N1 * N2) / N2 = ln at *
        generalize num' % (N1 * N2) % N2 = mn at *
        generalize num' % (N1 * N2) = rest at *
        generalize num' / (N1 * N2) = tm at *
        clear k1 k2 k3 k4 k5 hta htb htc htd hte
        refine ⟨_, rfl, _, rfl, _, rfl, _, rfl, sa, A, z, rs, lo, hi, p, x, ln, rfl, s5, h1, hpx, by omega, by omega, m2, by rw [hn1]; exact m3, fun o1 r1 H6 g6 v1 hr1 => ?_⟩
        refine ⟨r1, _, rfl, .inr (SqT.of hr1), fun la hla => ?_⟩
        have s6 := (s5.same g6).same (same_new hla (.lst (o1.map V.int)))
        have g7 := (g5.trans g6).trans (same_new hla (.lst (o1.map V.int)))
        have la7 : upd H6 la (.lst (o1.map V.int)) la = _ := upd_same
        have la0 : H la = none := same_free (g5.trans g6) hla
        generalize upd H6 la (.lst (o1.map V.int)) = H7 at s6 g7 la7
        refine ⟨_, rfl, _, rfl, _, rfl, _, rfl, sa, A, z, rs, lo, hi, x, q, mn, rfl, s6, by omega, hxq, h3, by omega, m4, by rw [hn2]; exact m5, fun o2 r2 H8 g8 v2 hr2 => ?_⟩
        refine ⟨r2, _, rfl, .inr (SqT.of hr2), fun lb hlb => ?_⟩
        have s8 := (s6.same g8).same (same_new hlb (.lst (o2.map V.int)))
        have g9 := (g7.trans g8).trans (same_new hlb (.lst (o2.map V.int)))
        have lb9 : upd H8 lb (.lst (o2.map V.int)) lb = _ := upd_same
        have la9 := same_new hlb (.lst (o2.map V.int)) _ _ (g8 _ _ la7)
        have lb0 : H lb = none := same_free (g7.trans g8) hlb
        have lab : la ≠ lb := fun e => by rw [← e, g8 _ _ la7] at hlb; cases hlb
        generalize upd H8 lb (.lst (o2.map V.int)) = H9 at s8 g9 lb9 la9
        have L1 := v1.len
        have L2 := v2.len
        have L1' : ((o1.map V.int).length : Int) = x - p - 1 := by rw [List.length_map]; exact L1
        have L2' : ((o2.map V.int).length : Int) = q - x - 1 := by rw [List.length_map]; exact L2
        obtain ⟨dx9, ho9⟩ := s8.ob
        refine ⟨_, rfl, sa, _, _, _, _, rfl, ho9, Z.c_Sums, Z.n_rows_by, rfl, _, rfl, _, rfl, la, _, rfl, .inl (SqL.of la9), _, rfl, la, _, rfl, .inl (SqL.of la9), _, rfl, lb, _, rfl, .inl (SqL.of lb9), _, _, rfl, rfl, ?_⟩
        rw [L1', L2']
        refine ⟨A.rb, (hi - lo).toNat + 1, tm, x - p - 1, x - p - 1 + (q - x - 1), rfl, s8.rb, by omega, by omega, by omega, by omega, m6, by rw [show x - p - 1 + (q - x - 1) - (x - p - 1) = q - x - 1 by omega]; exact m7, fun sp sq H10 g10 hsl hsn hsr hsq => ?_⟩
        have g10' := g9.trans g10
        have la10 := g10 _ _ la9
        have lb10 := g10 _ _ lb9
        have dl : ∀ (o : List Int) (a : Nat), a < o.length → ∃ y, o[a]? = some y ∧ o.drop a = y :: o.drop (a + 1) ∧ o.take (a + 1) = o.take a ++ [y] := fun o a h => ⟨o[a], List.getElem?_eq_getElem h, (List.getElem_cons_drop (h := h)).symm, List.take_succ_eq_append_getElem h⟩
        have hN : ((q - p - 2).toNat : Int) = q - p - 2 := by omega
        refine ⟨_, rfl, _, rfl, _, _, rfl, rfl, _, _, rfl, rfl, _, rfl, by omega, by omega, fun D hD => ?_⟩
        have hD0 : H D = none := same_free g10' hD
        have dla : D ≠ la := fun e => by rw [e, la10] at hD; cases hD
        have dlb : D ≠ lb := fun e => by rw [e, lb10] at hD; cases hD
        have hspN : ∀ y ∈ sp, y < (((q - p - 2).toNat : Nat) : Int) := fun y hy => by have := hsr y hy; omega
        have hsp0 : ∀ y ∈ sp, 0 ≤ y := fun y hy => (hsr y hy).1
        refine lc_range (fun i H' => ∃ (a b : Nat) (w : List Int), a + b = i ∧ a = cnt sp i ∧ Same H H' ∧ H' la = some (.lst ((o1.drop a).map V.int)) ∧ H' lb = some (.lst ((o2.drop b).map V.int)) ∧ H' sq = some (.tup (sp.map V.int)) ∧ H' D = some (.lst (w.map V.int)) ∧ w.length = i ∧
            (w.filter fun y => decide (y < x)) = o1.take a ∧ (w.filter fun y => decide (x < y)) = o2.take b ∧ x ∉ w) ⟨0, 0, [], rfl, (cnt_zero hsp0).symm, g10'.trans (same_new hD _), same_new hD _ _ _ la10, same_new hD _ _ _ lb10, same_new hD _ _ _ hsq, upd_same, rfl, rfl, rfl, by simp⟩ (fun i H' hi q' => ?_) (fun H' q' => ?_)
        · obtain ⟨a, b, w, hab, ha, gS, e1, e2, e3, e4, e5, e6, e7, e8⟩ := q'
          have hi2 : i < (q - p - 2).toNat := hi
          have sqn : sq ≠ la ∧ sq ≠ lb ∧ sq ≠ D := ⟨(fun (e : sq = la) => by rw [e, e1] at e3; cases e3), (fun (e : sq = lb) => by rw [e, e2] at e3; cases e3), (fun (e : sq = D) => by rw [e, e4] at e3; cases e3)⟩
          refine ⟨rfl, _, rfl, _, rfl, sq, _, rfl, .inr (SqT.of e3), rfl, flat_ints _, _, rfl, ?_⟩
          show if (if false = true then !inV (V.int (0 + (i : Nat))) (sp.map V.int) else inV (V.int (0 + (i : Nat))) (sp.map V.int)) = true then _ else _
          rw [if_neg Bool.false_ne_true, inV_int, Int.zero_add]
          have hcs := cnt_succ i hsn
          by_cases m : ((i : Nat) : Int) ∈ sp
          · rw [decide_eq_true m]
            rw [if_pos m] at hcs
            have hlt : a < o1.length := by have := cnt_in hsn m; omega
            obtain ⟨y, y1, y2, y3⟩ := dl o1 a hlt
            have hyx : y < x := by have := (v1.mem y).mp (List.mem_of_getElem? y1); omega
            rw [y2, List.map_cons] at e1
            refine iteT ⟨_, rfl, .inl ⟨rfl, _, SqL.of e1⟩, la, _, 0, 0, V.int y, rfl, rfl, e1, by decide, by decide, seq0 _, rfl, _, (upd_ne dla).trans e4, sz_lt (by rw [List.length_map]; omega), a + 1, b, w ++ [y], by omega, by omega, (gS.mutS la0).mutS hD0, ?_, ?_, ?_, by rw [upd_same, List.map_append]; rfl, by rw [List.length_append]; rw [e5]; rfl, ?_, ?_, ?_⟩
            · rw [upd_ne dla.symm, upd_same]; rfl
            · rw [upd_ne dlb.symm, upd_ne lab.symm]; exact e2
            · rw [upd_ne sqn.2.2, upd_ne sqn.1]; exact e3
            · rw [List.filter_append, e6, y3]
              simp [hyx]
            · rw [List.filter_append, e7]
              simp [show ¬ x < y by omega]
            · intro h
              rcases List.mem_append.mp h with h | h
              · exact e8 h
              · simp at h; omega
          · rw [decide_eq_false m]
            rw [if_neg m] at hcs
            have hlt : b < o2.length := by have := cnt_out hsn hspN m hi2; omega
            obtain ⟨y, y1, y2, y3⟩ := dl o2 b hlt
            have hyx : x < y := by have := (v2.mem y).mp (List.mem_of_getElem? y1); omega
            rw [y2, List.map_cons] at e2
            refine iteF ⟨_, rfl, .inl ⟨rfl, _, SqL.of e2⟩, lb, _, 0, 0, V.int y, rfl, rfl, e2, by decide, by decide, seq0 _, rfl, _, (upd_ne dlb).trans e4, sz_lt (by rw [List.length_map]; omega), a, b + 1, w ++ [y], by omega, by omega, (gS.mutS lb0).mutS hD0, ?_, ?_, ?_, by rw [upd_same, List.map_append]; rfl, by rw [List.length_append]; rw [e5]; rfl, ?_, ?_, ?_⟩
            · rw [upd_ne dla.symm, upd_ne lab]; exact e1
            · rw [upd_ne dlb.symm, upd_same]; rfl
            · rw [upd_ne sqn.2.2, upd_ne sqn.2.1]; exact e3
            · rw [List.filter_append, e6]
              simp [show ¬ y < x by omega]
            · rw [List.filter_append, e7, y3]
              simp [hyx]
            · intro h
              rcases List.mem_append.mp h with h | h
              · exact e8 h
              · simp at h; omega
        · obtain ⟨a, b, w, hab, ha, gS, e1, e2, e3, e4, e5, e6, e7, e8⟩ := q'
          rw [cnt_all hspN] at ha
          have ha1 : a = o1.length := by omega
          have hb1 : b = o2.length := by
            have : a + b = (q - p - 2).toNat := hab
            omega
          rw [ha1, List.take_length] at e6
          rw [hb1, List.take_length] at e7
          have hV : Vord (pr z rs) p q (w ++ [x]) := .snoc hpx hxq hpx3 e8 (by rw [e6]; exact v1) (by rw [e7]; exact v2)
          refine ⟨D, _, rfl, .inl ⟨SqL.of e4, fun t1 ht1 => ?_⟩⟩
          refine ⟨_, rfl, by show 1 ≤ sizeLine; decide, fun t2 ht2 => ?_⟩
          have f1 := same_new ht1 (.tup (w.map V.int))
          have f2 := same_new ht2 (.tup [.int x])
          have hwl : (w.map V.int).length ≤ 120 := by
            rw [List.length_map]
            have : w.length = (q - p - 2).toNat := e5
            omega
          refine ⟨t1, t2, _, _, rfl, rfl, SqT.of (f2 _ _ upd_same), SqT.of upd_same, sz_of (by show (w.map V.int).length + 1 ≤ _; omega), fun e => ?_, fun _ e => (by cases e), fun _ _ r hr => ?_⟩
          · refine k (w ++ [x]) t2 _ (gS.trans (f1.trans f2)) hV ?_
            rw [upd_same]
            have : w = [] := by simpa using e
            rw [this]
            rfl
          · refine k (w ++ [x]) r _ (gS.trans ((f1.trans f2).trans (same_new hr _))) hV ?_
            rw [upd_same, List.map_append]
            rfl
      · have hge : ¬ num' < ((ordW (pr z rs) p q x : Nat) : Int) := of_decide_eq_false (Bool.eq_false_iff.mpr c)
        exact ⟨_, rfl, _, rfl, _, _, rfl, rfl, num' - ((ordW (pr z rs) p q x : Nat) : Int), _, _, rfl, g.trans g2, by omega, by omega⟩
    · obtain ⟨num', w4, w5, rfl, g, hn0, hn1⟩ := w
      rw [List.drop_of_length_le (by rw [List.length_map]; exact Nat.le_refl _)] at hn1
      simp at hn1
      omega
theorem ok_order_by : Cal W 126 "order_by" ["word", "book", "p", "q", "number"] (spOrderBy W.K) := by
  have ih := ok_order_in Z 121
  refine cal_mk (d := d_order_by) Z.g_order_by Z.d_order_by sc_order_by bd_order_by (fun vs H Q E h => ?_) fun f cdv A outer s H vs Q E hr h => ?_
  · obtain ⟨_, _, _, _, _, _, _, rfl, _⟩ := h; rfl
  obtain ⟨z, bp, xs, rs, p, q, num, rfl, hz, hg, hb, hp, hpq, hq, h0, h1, k⟩ := h
  refine ⟨_, pss_cons (ps_set (i := 5) sc_order_by.nd rfl (Or.inl rfl) (pe_cal (ok_sums_of Z) (hr.mono (by decide)) (pa_cons (pv 0) (pa_cons (pv 1) (pa_cons (pv 2) (pa_cons (pv 3) pa_nil))))))
      (pss_cons (ps_if (pt_not (pt_val (pe_iwm Z (hr.mono (by decide)) (pv 4) (pe_op op_sub (pe_dget (hu_of hr) (k_fld W.K (pv 5)) (pe_tup (pa_cons (pv 2) (pa_cons (pv 3) pa_nil))) (fun _ _ => rfl)) pe_int)))) (pss_one (ps_never)) pss_nil)
      (pss_one (ps_ret (pe_cal (ih) (hr.mono (by decide)) (pa_cons (pv 5) (pa_cons (pv 2) (pa_cons (pv 3) (pa_cons (pv 4) pa_nil)))))))), ?_⟩
  have hzl := hz.len
  refine ⟨_, rfl, _, rfl, _, rfl, _, rfl, z, bp, xs, rs, p, q, rfl, hz, hg, hb, hp, hpq, hq, fun sa A H1 g1 s => ?_⟩
  obtain ⟨dx, ho⟩ := s.ob
  obtain ⟨kv, hod, hO⟩ := s.od
  refine ⟨_, rfl, _, rfl, sa, _, _, _, _, rfl, ho, Z.c_Sums, Z.n_orders_by, rfl, _, rfl, _, rfl, by show 2 ≤ sizeLine; decide, fun t ht => ?_⟩
  have g2 := same_new ht (.tup [.int p, .int q])
  refine ⟨A.od, .int ((ord (pr z rs) p q : Nat) : Int), rfl, by rw [← hO.get (T := FullS p q) ⟨by omega, by omega, hpq⟩]; exact DGet.t (k := gapK p q) (g2 _ _ hod) upd_same, ?_⟩
  refine ⟨_, _, rfl, rfl, rfl, rfl, num, 0, _, rfl, ?_⟩
  rw [decide_eq_true (by constructor <;> omega)]
  refine ⟨_, rfl, iteF ?_⟩
  exact ⟨_, rfl, _, rfl, _, rfl, _, rfl, sa, A, z, rs, p, q, p, q, num, rfl, s.same g2, by omega, hpq, by omega, by omega, h0, h1, fun o r H3 g3 v hr => k o r H3 ((g1.trans g2).trans g3) v hr⟩
end
end Sl
/-! SlMath4 -/
namespace Sl
/-! ### the tree of an order: the last strike is the root -/
def trR : Nat → List Int → Tree
  | 0, _ => .nil
  | _ + 1, [] => .nil
  | n + 1, x :: r => .node x (trR n (r.filter fun y => decide (y < x))) (trR n (r.filter fun y => decide (x < y)))
theorem trR_nil : ∀ n : Nat, trR n [] = .nil
  | 0 => rfl
  | _ + 1 => rfl
theorem trR_eq : ∀ (n m : Nat) (r : List Int), r.length ≤ n → r.length ≤ m → trR n r = trR m r
  | n, m, [], _, _ => by rw [trR_nil, trR_nil]
  | n + 1, m + 1, x :: r, h1, h2 => by
    rw [List.length_cons] at h1 h2
    have a1 := List.length_filter_le (fun y => decide (y < x)) r
    have a2 := List.length_filter_le (fun y => decide (x < y)) r
    show Tree.node x _ _ = Tree.node x _ _
    rw [trR_eq n m (r.filter fun y => decide (y < x)) (by omega) (by omega), trR_eq n m (r.filter fun y => decide (x < y)) (by omega) (by omega)]
def tr (o : List Int) : Tree := trR o.length o.reverse
theorem tr_nil : tr [] = .nil := rfl
theorem tr_snoc (o : List Int) (x : Int) : tr (o ++ [x]) = .node x (tr (o.filter fun y => decide (y < x))) (tr (o.filter fun y => decide (x < y))) := by
  unfold tr
  rw [List.length_append, List.reverse_append]
  show trR (o.length + 1) (x :: o.reverse) = _
  show Tree.node x _ _ = Tree.node x _ _
  rw [← List.filter_reverse, ← List.filter_reverse]
  have a1 := List.length_filter_le (fun y => decide (y < x)) o
  have a2 := List.length_filter_le (fun y => decide (x < y)) o
  have e1 : (o.reverse.filter fun y => decide (y < x)).length = (o.filter fun y => decide (y < x)).length := by rw [List.filter_reverse, List.length_reverse]
  have e2 : (o.reverse.filter fun y => decide (x < y)).length = (o.filter fun y => decide (x < y)).length := by rw [List.filter_reverse, List.length_reverse]
  rw [trR_eq o.length (o.filter fun y => decide (y < x)).length (o.reverse.filter fun y => decide (y < x)) (by omega) (by omega), trR_eq o.length (o.filter fun y => decide (x < y)).length (o.reverse.filter fun y => decide (x < y)) (by omega) (by omega)]
theorem split_len {x : Int} : ∀ l : List Int, x ∉ l → l.length = (l.filter fun y => decide (y < x)).length + (l.filter fun y => decide (x < y)).length
  | [], _ => rfl
  | a :: r, hx => by
    have h3 := split_len r fun m => hx (List.mem_cons_of_mem _ m)
    have h4 : a ≠ x := fun e => hx (by rw [e]; exact List.mem_cons_self)
    rw [List.filter_cons, List.filter_cons, List.length_cons]
    by_cases c : a < x
    · rw [if_pos (decide_eq_true c), if_neg (by simp; omega), List.length_cons]
      omega
    · rw [if_neg (by simpa using c), if_pos (decide_eq_true (by omega)), List.length_cons]
      omega
/-- induction over an order from its end -/
theorem snocInd {P : List Int → Prop} (h0 : P []) (h1 : ∀ o x, (∀ o' : List Int, o'.length ≤ o.length → P o') → P (o ++ [x])) (o : List Int) : P o := by
  have : ∀ n : Nat, ∀ o : List Int, o.length ≤ n → P o := by
    intro n
    induction n with
    | zero =>
      intro o h
      have : o = [] := by simpa using h
      rw [this]
      exact h0
    | succ n ih =>
      intro o h
      rcases List.eq_nil_or_concat o with e | ⟨o', x, e⟩
      · rw [e]; exact h0
      · subst e
        rw [List.concat_eq_append, List.length_append] at h
        rw [List.concat_eq_append]
        exact h1 o' x fun o'' h' => ih o'' (by simp at h; omega)
  exact this o.length o (Nat.le_refl _)
theorem tr_size (o : List Int) : o.Nodup → (tr o).size = o.length := by
  refine snocInd (P := fun o => o.Nodup → (tr o).size = o.length) (fun _ => rfl) (fun o x ih h => ?_) o
  obtain ⟨h1, h2, h3⟩ := List.nodup_append.mp h
  have hx : x ∉ o := fun m => h3 x m x (by simp) rfl
  rw [tr_snoc]
  show (tr _).size + (tr _).size + 1 = _
  rw [ih _ (List.length_filter_le _ _) (h1.filter _), ih _ (List.length_filter_le _ _) (h1.filter _), List.length_append, ← split_len o hx]
  rfl
/-- a search tree between two places -/
def InB : Tree → Int → Int → Prop
  | .nil, _, _ => True
  | .node k l r, lo, hi => lo < k ∧ k < hi ∧ InB l lo k ∧ InB r k hi
theorem tr_inB (o : List Int) : ∀ lo hi, (∀ x ∈ o, lo < x ∧ x < hi) → InB (tr o) lo hi := by
  refine snocInd (P := fun o => ∀ lo hi, (∀ x ∈ o, lo < x ∧ x < hi) → InB (tr o) lo hi) (fun _ _ _ => trivial) (fun o x ih lo hi h => ?_) o
  rw [tr_snoc]
  have hx := h x (by simp)
  refine ⟨hx.1, hx.2, ih _ (List.length_filter_le _ _) _ _ fun y hy => ?_, ih _ (List.length_filter_le _ _) _ _ fun y hy => ?_⟩
  · rw [List.mem_filter] at hy
    have := h y (by simp [hy.1])
    have := of_decide_eq_true hy.2
    omega
  · rw [List.mem_filter] at hy
    have := h y (by simp [hy.1])
    have := of_decide_eq_true hy.2
    omega
def Tree.prod : Tree → Nat
  | .nil => 1
  | .node _ l r => l.prod * r.prod * (l.size + r.size + 1)
def Tree.exts : Tree → Nat
  | .nil => 1
  | .node _ l r => bin l.size r.size * (l.exts * r.exts)
theorem Tree.prod_pos : ∀ t : Tree, 0 < t.prod
  | .nil => Nat.one_pos
  | .node _ l r => Nat.mul_pos (Nat.mul_pos l.prod_pos r.prod_pos) (Nat.succ_pos _)
theorem Tree.exts_pos : ∀ t : Tree, 0 < t.exts
  | .nil => Nat.one_pos
  | .node _ l r => Nat.mul_pos (bin_pos _ _) (Nat.mul_pos l.exts_pos r.exts_pos)
theorem Tree.exts_prod : ∀ t : Tree, t.exts * t.prod = fac t.size
  | .nil => rfl
  | .node _ l r => by
    have h1 := l.exts_prod
    have h2 := r.exts_prod
    show bin l.size r.size * (l.exts * r.exts) * (l.prod * r.prod * (l.size + r.size + 1)) = fac (l.size + r.size) * (l.size + r.size + 1)
    rw [← bin_fac, ← h1, ← h2]
    simp only [Nat.mul_assoc, Nat.mul_comm, Nat.mul_left_comm]
theorem Tree.prod_le (t : Tree) : t.prod ≤ fac t.size := by
  rw [← t.exts_prod]
  exact Nat.le_mul_of_pos_left _ t.exts_pos
theorem Tree.fac_div (t : Tree) : fac t.size / t.prod = t.exts := by
  rw [← t.exts_prod, Nat.mul_div_cancel _ t.prod_pos]
/-- the parts of an order between the standing ones -/
def ends (n : Int) (st : List Int) : List Int := [-1] ++ st ++ [n]
def part (o : List Int) (l h : Int) : List Int := o.filter fun x => decide (l < x) && decide (x < h)
def gapsOf (n : Int) (st : List Int) : List (Int × Int) := (ends n st).zip (ends n st).tail
def forest (n : Int) (o st : List Int) : List Tree := (gapsOf n st).map fun g => tr (part o g.1 g.2)
/-! ### inversions -/
def inv : List Int → Nat
  | [] => 0
  | x :: r => (r.filter fun y => decide (y < x)).length + inv r
theorem inv_swap : ∀ (a : List Int) (x y : Int) (b : List Int), y < x → inv (a ++ x :: y :: b) = inv (a ++ y :: x :: b) + 1
  | [], x, y, b, h => by
    show ((y :: b).filter fun z => decide (z < x)).length + ((b.filter fun z => decide (z < y)).length + inv b) = ((x :: b).filter fun z => decide (z < y)).length + ((b.filter fun z => decide (z < x)).length + inv b) + 1
    rw [List.filter_cons, List.filter_cons, if_pos (decide_eq_true h), if_neg (by simp; omega), List.length_cons]
    omega
  | c :: a, x, y, b, h => by
    have ih := inv_swap a x y b h
    show ((a ++ x :: y :: b).filter fun z => decide (z < c)).length + inv (a ++ x :: y :: b) = ((a ++ y :: x :: b).filter fun z => decide (z < c)).length + inv (a ++ y :: x :: b) + 1
    have e : ((a ++ x :: y :: b).filter fun z => decide (z < c)).length = ((a ++ y :: x :: b).filter fun z => decide (z < c)).length := by
      rw [List.filter_append, List.filter_append, List.length_append, List.length_append]
      congr 1
      rw [List.filter_cons, List.filter_cons, List.filter_cons, List.filter_cons]
      by_cases c1 : x < c <;> by_cases c2 : y < c <;> simp [c1, c2]
    rw [ih, e]
    omega
theorem inv_sorted : ∀ l : List Int, l.Pairwise (· ≤ ·) → inv l = 0
  | [], _ => rfl
  | x :: r, h => by
    obtain ⟨h1, h2⟩ := List.pairwise_cons.mp h
    show (r.filter fun y => decide (y < x)).length + inv r = 0
    rw [inv_sorted r h2, List.filter_eq_nil_iff.mpr]
    · rfl
    · intro y hy
      have := h1 y hy
      simp
      omega
/-- the first number of an item -/
def spotOf : List Int → Int → Nat
  | [], _ => 0
  | y :: ys, x => if y = x then 0 else spotOf ys x + 1
theorem spot_get : ∀ {l : List Int} {x : Int}, x ∈ l → l[spotOf l x]? = some x ∧ ∀ j, j < spotOf l x → l[j]? ≠ some x
  | y :: ys, x, h => by
    unfold spotOf
    by_cases e : y = x
    · rw [if_pos e]
      exact ⟨by simp [e], fun j hj => absurd hj (Nat.not_lt_zero j)⟩
    · rw [if_neg e]
      have h2 : x ∈ ys := by
        rcases List.mem_cons.mp h with q | q
        · exact absurd q.symm e
        · exact q
      obtain ⟨a, b⟩ := spot_get h2
      refine ⟨by simpa using a, fun j hj => ?_⟩
      cases j with
      | zero => simpa using e
      | succ j => simpa using b j (by omega)
/-- how often two stand in the other's order the other way around -/
def pairs (o1 o2 : List Int) : Nat := inv (o1.map fun x => ((spotOf o2 x : Nat) : Int))
theorem two_at : ∀ (L : List Int) (j : Nat) (x y : Int), L[j]? = some x → L[j + 1]? = some y → ∃ a b, L = a ++ x :: y :: b ∧ a.length = j
  | [], _, _, _, h, _ => by simp at h
  | [_], 0, _, _, _, h => by simp at h
  | c :: d :: r, 0, x, y, h1, h2 => by
    simp at h1 h2
    exact ⟨[], r, by rw [h1, h2]; rfl, rfl⟩
  | c :: r, j + 1, x, y, h1, h2 => by
    obtain ⟨a, b, e1, e2⟩ := two_at r j x y (by simpa using h1) (by simpa using h2)
    exact ⟨c :: a, b, by rw [e1]; rfl, by rw [List.length_cons, e2]⟩
theorem swap_at (a : List Int) (x y : Int) (b : List Int) : ((a ++ x :: y :: b).set a.length y).set (a.length + 1) x = a ++ y :: x :: b := by
  induction a with
  | nil => rfl
  | cons c a ih =>
    show c :: (((a ++ x :: y :: b).set a.length y).set (a.length + 1) x) = _
    rw [ih]
    rfl
theorem getD_swap : ∀ (pa : List Int) (x y : Int) (pb : List Int) (a : Nat), (pa ++ y :: x :: pb).getD a 0 = if a = pa.length then y else if a = pa.length + 1 then x else (pa ++ x :: y :: pb).getD a 0
  | [], x, y, pb, 0 => by simp
  | [], x, y, pb, 1 => by simp
  | [], x, y, pb, a + 2 => by simp
  | c :: pa, x, y, pb, 0 => by simp
  | c :: pa, x, y, pb, a + 1 => by
    have ih := getD_swap pa x y pb a
    show (pa ++ y :: x :: pb).getD a 0 = if a + 1 = pa.length + 1 then y else if a + 1 = pa.length + 1 + 1 then x else (pa ++ x :: y :: pb).getD a 0
    rw [ih]
    simp only [Nat.add_right_cancel_iff]
end Sl
/-! SlW8 -/
namespace Sl
open PySem PySem.Spec PyProof.Rows L2
/-! ### parts of a tree -/
def Item (K : PySem.W.Frag) (H : Hp) (v : V) (t : Tree) : Prop := ∃ (q w : Addr) (ws : List Int) (lo hi : Int) (vt : V), v = .ref q ∧ SqT K H q [.ref w, .int lo, .int hi, vt] ∧ SqT K H w (ws.map V.int) ∧ TreeAt K H vt t ∧ InB t lo hi ∧ ws.length + t.height ≤ 60
theorem Item.mono {K : PySem.W.Frag} {H H' : Hp} {v : V} {t : Tree} (e : Im K H H') (h : Item K H v t) : Item K H' v t := by
  obtain ⟨q, w, ws, lo, hi, vt, h1, h2, h3, h4, h5, h6⟩ := h
  exact ⟨q, w, ws, lo, hi, vt, h1, e _ _ h2, e _ _ h3, h4.mono e, h5, h6⟩
def Items (K : PySem.W.Frag) (H : Hp) (vs : List V) (ts : List Tree) : Prop := Paired (Item K H) vs ts
theorem Items.mono {K : PySem.W.Frag} {H H' : Hp} {vs : List V} {ts : List Tree} (e : Im K H H') (h : Items K H vs ts) : Items K H' vs ts := Paired.mapP h fun _ _ q => q.mono e
theorem Item.dp {K : PySem.W.Frag} {H : Hp} {v : V} {t : Tree} (h : Item K H v t) : ∃ d, Dp K H v d ∧ d.canLay0 = true ∧ d.depth ≤ 62 := by
  obtain ⟨q, w, ws, lo, hi, vt, rfl, h2, h3, h4, h5, h6⟩ := h
  refine ⟨.tuple [.tuple (pInts ws), .int lo, .int hi, t.py], .tup h2 (.cons (.tup h3 (dpAll_ints ws)) (.cons (.int lo) (.cons (.int hi) (.cons h4.dp .nil)))), ?_, ?_⟩
  · simp only [PyData.canLay0, PyData.canLayAll0, t.py_lay, pInts_lay, Bool.and_self]
  · have e1 := pInts_depth ws
    have e2 := t.py_depth
    simp only [PyData.depth, PyData.depthAll]
    omega
theorem Items.dp {K : PySem.W.Frag} {H : Hp} : ∀ {vs : List V} {ts : List Tree}, Items K H vs ts → ∃ ds, DpAll K H vs ds ∧ PyData.canLayAll0 ds = true ∧ PyData.depthAll ds ≤ 62 ∧ ds.length = vs.length
  | _, _, .nil => ⟨[], .nil, by simp [PyData.canLayAll0], by simp [PyData.depthAll], rfl⟩
  | _, _, .cons a r => by
    obtain ⟨d, h1, h2, h3⟩ := a.dp
    obtain ⟨ds, k1, k2, k3, k4⟩ := Items.dp r
    refine ⟨d :: ds, .cons h1 k1, ?_, ?_, by rw [List.length_cons, k4, List.length_cons]⟩
    · simp only [PyData.canLayAll0, h2, k2, Bool.and_self]
    · simp only [PyData.depthAll]; omega
theorem paired_unsnoc {α β : Type} {F : α → β → Prop} : ∀ {l1 : List α} {l2 : List β}, Paired F l1 l2 → l1 ≠ [] → ∃ a x b y, l1 = a ++ [x] ∧ l2 = b ++ [y] ∧ Paired F a b ∧ F x y
  | _, _, .nil, h => absurd rfl h
  | _, _, @Paired.cons _ _ _ x y xs ys a r, _ => by
    cases xs with
    | nil =>
      cases r
      exact ⟨[], x, [], y, rfl, rfl, .nil, a⟩
    | cons x2 xs2 =>
      obtain ⟨a', x', b', y', e1, e2, h1, h2⟩ := paired_unsnoc r (by simp)
      exact ⟨x :: a', x', y :: b', y', by rw [e1]; rfl, by rw [e2]; rfl, .cons a h1, h2⟩
def isNode : Tree → Bool
  | .nil => false
  | .node _ _ _ => true
def wt (ts : List Tree) : Nat := (ts.map fun t => 2 * t.size + 1).sum
def sz (ts : List Tree) : Nat := (ts.map Tree.size).sum
theorem wt_snoc (ts : List Tree) (t : Tree) : wt (ts ++ [t]) = wt ts + (2 * t.size + 1) := by unfold wt; rw [List.map_append, List.sum_append]; rfl
theorem sz_snoc (ts : List Tree) (t : Tree) : sz (ts ++ [t]) = sz ts + t.size := by unfold sz; rw [List.map_append, List.sum_append]; rfl
def nodes (ts : List Tree) : Nat := (ts.filter isNode).length
theorem nodes_snoc (ts : List Tree) (t : Tree) : nodes (ts ++ [t]) = nodes ts + if isNode t = true then 1 else 0 := by
  unfold nodes
  rw [List.filter_append, List.length_append]
  congr 1
  cases h : isNode t <;> simp [h]
def rootI : Tree → Int
  | .nil => 0
  | .node k _ _ => k
theorem sc_is_part : FnScope ["part", "low", "high"] ["part", "low", "high"] (defScope s_is_part) := ⟨rfl, rfl, rfl, by decide +kernel, rfl, by decide +kernel, by decide +kernel⟩
theorem bd_is_part : Bnd d_is_part ["part", "low", "high"] := fun _ _ _ _ _ _ us hl => match us, hl with | [_, _, _], _ => rfl
theorem sc_met_parts : FnScope ["thing", "p", "q", "left", "found", "way", "low", "high", "part"] ["thing", "p", "q"] (defScope s_met_parts) := ⟨rfl, rfl, rfl, by decide +kernel, rfl, by decide +kernel, by decide +kernel⟩
theorem bd_met_parts : Bnd d_met_parts ["thing", "p", "q"] := fun _ _ _ _ _ _ us hl => match us, hl with | [_, _, _], _ => rfl
theorem sc_parts_by_form : FnScope ["thing", "found", "way", "low", "high", "part"] ["thing"] (defScope s_parts_by_form) := ⟨rfl, rfl, rfl, by decide +kernel, rfl, by decide +kernel, by decide +kernel⟩
theorem bd_parts_by_form : Bnd d_parts_by_form ["thing"] := fun _ _ _ _ _ _ us hl => match us, hl with | [_], _ => rfl
theorem sc_tree_places : FnScope ["thing", "way", "low", "high", "part"] ["thing"] (defScope s_tree_places) := ⟨rfl, rfl, rfl, by decide +kernel, rfl, by decide +kernel, by decide +kernel⟩
theorem bd_tree_places : Bnd d_tree_places ["thing"] := fun _ _ _ _ _ _ us hl => match us, hl with | [_], _ => rfl
theorem sc_product_of : FnScope ["part", "own", "less", "other", "more"] ["part"] (defScope s_product_of) := ⟨rfl, rfl, rfl, by decide +kernel, rfl, by decide +kernel, by decide +kernel⟩
theorem bd_product_of : Bnd d_product_of ["part"] := fun _ _ _ _ _ _ us hl => match us, hl with | [_], _ => rfl
theorem sc_orders_of_tree : FnScope ["tree"] ["tree"] (defScope s_orders_of_tree) := ⟨rfl, rfl, rfl, by decide +kernel, rfl, by decide +kernel, by decide +kernel⟩
theorem bd_orders_of_tree : Bnd d_orders_of_tree ["tree"] := fun _ _ _ _ _ _ us hl => match us, hl with | [_], _ => rfl
theorem sc_tree_in : FnScope ["order", "last", "less", "more", "one"] ["order"] (defScope s_tree_in) := ⟨rfl, rfl, rfl, by decide +kernel, rfl, by decide +kernel, by decide +kernel⟩
theorem bd_tree_in : Bnd d_tree_in ["order"] := fun _ _ _ _ _ _ us hl => match us, hl with | [_], _ => rfl
theorem sc_tree_of : FnScope ["order", "one"] ["order"] (defScope s_tree_of) := ⟨rfl, rfl, rfl, by decide +kernel, rfl, by decide +kernel, by decide +kernel⟩
theorem bd_tree_of : Bnd d_tree_of ["order"] := fun _ _ _ _ _ _ us hl => match us, hl with | [_], _ => rfl
def spIsPart (K : PySem.W.Frag) : Sp := fun vs H Q _ => ∃ (v : V) (lo hi k : Int) (l r : Tree), vs = [v, .int lo, .int hi] ∧ TreeAt K H v (.node k l r) ∧ lo < k ∧ k < hi ∧ Q (.bl true) H
def spMetParts (K : PySem.W.Frag) : Sp := fun vs H Q _ => ∃ (v : V) (p q : Int) (t : Tree), vs = [v, .int p, .int q] ∧ TreeAt K H v t ∧ InB t p q ∧ t.height ≤ 60 ∧ t.size ≤ 1000 ∧
  ∀ l us ts H', Same H H' → H' l = some (.lst us) → Items K H' us ts → us ≠ [] → us.length ≤ 2001 → nodes ts = t.size → Q (.ref l) H'
def spPartsBy (K : PySem.W.Frag) : Sp := fun vs H Q _ => ∃ (v : V) (t : Tree), vs = [v] ∧ TreeAt K H v t ∧ InB t (-1) 120 ∧ t.height ≤ 60 ∧ t.size ≤ 1000 ∧
  ∀ l us ts H', Same H H' → H' l = some (.lst us) → Items K H' us ts → us ≠ [] → us.length ≤ 2001 → nodes ts = t.size → Q (.ref l) H'
def spTreePlaces (K : PySem.W.Frag) : Sp := fun vs H Q _ => ∃ (v : V) (t : Tree), vs = [v] ∧ TreeAt K H v t ∧ InB t (-1) 120 ∧ t.height ≤ 60 ∧ t.size ≤ 1000 ∧
  ∀ q (ns : List Int) H', Same H H' → H' q = some (.tup (ns.map V.int)) → ns.length = t.size → Q (.ref q) H'
section
variable {W : Wd} (Z : Hd W)
include Z
theorem ok_is_part : Cal W 2 "is_part" ["part", "low", "high"] (spIsPart W.K) := by
  refine cal_mk (d := d_is_part) Z.g_is_part Z.d_is_part sc_is_part bd_is_part (fun vs H Q E h => ?_) fun f cdv A outer s H vs Q E hr h => ?_
  · obtain ⟨_, _, _, _, _, _, rfl, _⟩ := h; rfl
  obtain ⟨v, lo, hi, k, l, r, rfl, ht, h1, h2, q⟩ := h
  refine ⟨_, pss_one (ps_ret (pe_and (pe_callB (k_is W.K) (by rfl) Z.m_isinstance (by decide +kernel) (pa_cons (pv 0) (pa_cons (pe_bltn (v := .ty "tuple") (by rfl) Z.m_tuple (by decide +kernel) rfl) pa_nil))) (pe_and (pe_cmpR op_eq (pe_callB (k_len_seq W.K) (by rfl) Z.m_len (by decide +kernel) (pa_cons (pv 0) pa_nil)) pe_int (nomark _)) (pe_one (pe_iwb Z (hr.mono (by decide)) (pe_ix (k_ix_tup W.K) (pv 0) pe_int (fun _ _ => rfl)) (pe_op op_add (pv 1) pe_int) (pe_op op_sub (pv 2) pe_int)))))), ?_⟩
  obtain ⟨t, vl, vr, rfl, hq, _, _⟩ := ht
  refine ⟨_, rfl, _, "tuple", "tuple", true, rfl, tyT hq, by decide +kernel, _, rfl, ?_⟩
  refine iteT ⟨_, rfl, t, _, rfl, .inr hq, rfl, _, rfl, ?_⟩
  refine iteT ⟨_, rfl, t, _, _, _, rfl, rfl, hq, rfl, _, rfl, _, _, rfl, rfl, _, rfl, _, _, rfl, rfl, rfl, rfl, k, lo + 1, hi - 1, rfl, ?_⟩
  rw [decide_eq_true (by constructor <;> omega)]
  exact q
theorem ok_met_parts : Cal W 3 "met_parts" ["thing", "p", "q"] (spMetParts W.K) := by
  refine cal_mk (d := d_met_parts) Z.g_met_parts Z.d_met_parts sc_met_parts bd_met_parts (fun vs H Q E h => ?_) fun f cdv A outer s H vs Q E hr h => ?_
  · obtain ⟨_, _, _, _, rfl, _⟩ := h; rfl
  obtain ⟨v, p, q, t0, rfl, ht, hb, hh, hs, k⟩ := h
  refine ⟨_, pss_cons (ps_par (i := 3) (j := 4) (by rfl) sc_met_parts.nd rfl rfl (by decide) rfl rfl (pa_cons (pe_lst (pa_cons (pe_tup (pa_cons (pe_tup pa_nil) (pa_cons (pv 1) (pa_cons (pv 2) (pa_cons (pv 0) pa_nil))))) pa_nil)) (pa_cons (pe_lst pa_nil) pa_nil)) (by rfl))
      (pss_cons (ps_while PassesOwn.never (pt_cmpR (k_op_neD W.K hr.units) (pv 3) (pe_lst pa_nil) (nomark _)) (pss_cons (ps_asg (k_pop W.K (pv 3)) (pg_tup rfl (pgs_cons (pg_name (i := 5) sc_met_parts.nd rfl (Or.inl rfl)) (pgs_cons (pg_name (i := 6) sc_met_parts.nd rfl (Or.inl rfl)) (pgs_cons (pg_name (i := 7) sc_met_parts.nd rfl (Or.inl rfl)) (pgs_cons (pg_name (i := 8) sc_met_parts.nd rfl (Or.inl rfl)) pgs_nil))))))
      (pss_cons (ps_expr (k_append W.K (pv 4) (pe_tup (pa_cons (pv 5) (pa_cons (pv 6) (pa_cons (pv 7) (pa_cons (pv 8) pa_nil)))))))
      (pss_one (ps_if (pt_cmpR op_notN (pv 8) pe_non (nomark _)) (pss_cons (ps_if (pt_not (pt_val (pe_cal (ok_is_part Z) (hr.mono (by decide)) (pa_cons (pv 8) (pa_cons (pv 6) (pa_cons (pv 7) pa_nil)))))) (pss_one (ps_ret (pv 4))) pss_nil)
      (pss_cons (ps_expr (k_append W.K (pv 3) (pe_tup (pa_cons (pe_op (k_op_catA W.K) (pv 5) (pe_tup (pa_cons pe_int pa_nil))) (pa_cons (pe_ix (k_ix_tup W.K) (pv 8) pe_int (fun _ _ => rfl)) (pa_cons (pv 7) (pa_cons (pe_ix (k_ix_tup W.K) (pv 8) pe_int (fun _ _ => rfl)) pa_nil)))))))
      (pss_one (ps_expr (k_append W.K (pv 3) (pe_tup (pa_cons (pe_op (k_op_catA W.K) (pv 5) (pe_tup (pa_cons pe_int pa_nil))) (pa_cons (pv 6) (pa_cons (pe_ix (k_ix_tup W.K) (pv 8) pe_int (fun _ _ => rfl)) (pa_cons (pe_ix (k_ix_tup W.K) (pv 8) pe_int (fun _ _ => rfl)) pa_nil)))))))))) pss_nil)))))
      (pss_one (ps_ret (pv 4)))), ?_⟩
  refine ⟨by show 0 ≤ sizeLine; decide, fun w0 hw0 => ⟨_, rfl, _, rfl, _, rfl, by show 4 ≤ sizeLine; decide, fun q0 hq0 => ⟨by show 1 ≤ sizeLine; decide, fun ll hll => ⟨by show 0 ≤ sizeLine; decide, fun fl hfl => ⟨_, _, rfl, ?_⟩⟩⟩⟩⟩
  have g1 := same_new hw0 (.tup [])
  have g2 := g1.trans (same_new hq0 (.tup [.ref w0, .int p, .int q, v]))
  have g3 := g2.trans (same_new hll (.lst [.ref q0]))
  have g4 := g3.trans (same_new hfl (.lst []))
  have ll0 : H ll = none := same_free g2 hll
  have fl0 : H fl = none := same_free g3 hfl
  have hlf : ll ≠ fl := fun e => by rw [← e, upd_same] at hfl; cases hfl
  have hI0 : Item W.K _ (.ref q0) t0 := ⟨q0, w0, [], p, q, v, rfl, SqT.of (same_new hfl (.lst []) _ _ (same_new hll (.lst [.ref q0]) _ _ upd_same)), SqT.of (same_new hfl (.lst []) _ _ (same_new hll (.lst [.ref q0]) _ _ (same_new hq0 _ _ _ upd_same))), (ht.mono g4.imS), hb, by simpa using hh⟩
  have hll4 := same_new hfl (.lst []) _ _ (show upd _ ll (.lst [.ref q0]) ll = _ from upd_same)
  have hfl4 : upd (upd (upd (upd H w0 (.tup [])) q0 (.tup [.ref w0, .int p, .int q, v])) ll (.lst [.ref q0])) fl (.lst []) fl = _ := upd_same
  generalize upd (upd (upd (upd H w0 (.tup [])) q0 (.tup [.ref w0, .int p, .int q, v])) ll (.lst [.ref q0])) fl (.lst []) = H4 at g4 hI0 hll4 hfl4
  refine ⟨fun m σ H' => ∃ lvs lts fvs fts w5 w6 w7 w8, σ = [some v, some (.int p), some (.int q), some (.ref ll), some (.ref fl), w5, w6, w7, w8] ∧ Same H H' ∧ H' ll = some (.lst lvs) ∧ H' fl = some (.lst fvs) ∧ Items W.K H' lvs lts ∧ Items W.K H' fvs fts ∧
      m = wt lts ∧ fvs.length + wt lts = 2 * t0.size + 1 ∧ nodes fts + sz lts = t0.size, ⟨_, [.ref q0], [t0], [], [], _, _, _, _, rfl, g4, hll4, hfl4, .cons hI0 .nil, .nil, rfl, by show 0 + (2 * t0.size + 1 + 0) = _; omega, by show 0 + (t0.size + 0) = _; omega⟩, fun m σ H' w => ?_⟩
  obtain ⟨lvs, lts, fvs, fts, w5, w6, w7, w8, rfl, g, hl, hf, il, if_, hm, hlen, hnod⟩ := w
  obtain ⟨ds, d1, d2, d3, d4⟩ := il.dp
  refine ⟨_, rfl, by show 0 ≤ sizeLine; decide, fun e he => ?_⟩
  have ge := same_new he (.lst [])
  obtain ⟨ds', d1', d2', d3', d4'⟩ := (Items.mono ge.imS il).dp
  refine ⟨.list ds', .list [], .lst (SqL.of (ge _ _ hl)) d1', .lst (SqL.of upd_same) .nil, shaped_of (by simp only [PyData.canLay0]; exact d2') (by simp only [PyData.depth]; omega), by decide +kernel, _, rfl, ?_⟩
  have i5 := Items.mono ge.imS il
  have f5 := Items.mono ge.imS if_
  have g5 := g.trans ge
  have hl5 := ge _ _ hl
  have hf5 := ge _ _ hf
  generalize upd H' e (.lst []) = H5 at ge d1' i5 f5 g5 hl5 hf5
  by_cases hn : lvs = []
  · subst hn
    have e1 : ds' = [] := by simpa using d4'
    have e2 : (!(PyData.list ds').eqv (PyData.list [])) = false := by rw [e1]; decide +kernel
    rw [e2]
    refine iteF ?_
    have e3 : lts = [] := by cases il; rfl
    subst e3
    have w0 : wt [] = 0 := rfl
    have z0 : sz [] = 0 := rfl
    refine ⟨_, rfl, k fl fvs fts H5 g5 hf5 f5 (fun e => ?_) (by omega) (by omega)⟩
    rw [e, w0] at hlen
    simp at hlen
  · have e2 : (!(PyData.list ds').eqv (PyData.list [])) = true := by
      cases ds' with
      | nil => exact absurd (List.length_eq_zero_iff.mp d4'.symm) hn
      | cons a b => simp [PyData.eqv, PyData.eqvAll]
    rw [e2]
    refine iteT ⟨fun σ' H2 => ∃ m', m' < m ∧ _, fun σ' H2 h => h, ?_⟩
    obtain ⟨la, x, lb, t, rfl, rfl, hp1, hp2⟩ := paired_unsnoc i5 hn
    rw [wt_snoc] at hlen hm
    rw [sz_snoc] at hnod
    obtain ⟨q1, w, ws, lo, hi, vt, rfl, a1, a2, a3, a4, a5⟩ := hp2
    have hlast : (la ++ [V.ref q1])[(la ++ [V.ref q1]).length - 1]? = some (V.ref q1) := by simp
    refine ⟨_, rfl, .inl ⟨rfl, _, SqL.of hl5⟩, ll, _, _, rfl, rfl, hl5, hlast, ?_⟩
    rw [List.dropLast_concat]
    have im6 : Im W.K H5 (upd H5 ll (.lst la)) := im_mut (by rw [hl5]; trivial)
    have g6 := g5.mutS (o := .lst la) ll0
    have hl6 : upd H5 ll (.lst la) ll = _ := upd_same
    have hf6 : upd H5 ll (.lst la) fl = _ := (upd_ne hlf.symm).trans hf5
    generalize upd H5 ll (.lst la) = H6 at im6 g6 hl6 hf6
    refine ⟨q1, _, rfl, im6 _ _ a1, rfl, _, _, rfl, _, _, rfl, _, _, rfl, _, _, rfl, rfl, ?_⟩
    refine ⟨_, rfl, .inl ⟨rfl, _, SqL.of hf6⟩, _, rfl, _, rfl, _, rfl, _, rfl, by show 4 ≤ sizeLine; decide, fun tq htq => ?_⟩
    have n7 := same_new htq (.tup [.ref w, .int lo, .int hi, vt])
    refine ⟨fl, _, _, rfl, rfl, n7 _ _ hf6, sz_lt (by omega), ?_⟩
    have im7 : Im W.K H6 (upd (upd H6 tq (.tup [.ref w, .int lo, .int hi, vt])) fl (.lst (fvs ++ [.ref tq]))) := n7.imS.trans (im_mut (by rw [n7 _ _ hf6]; trivial))
    have g7 := (g6.trans n7).mutS (o := .lst (fvs ++ [.ref tq])) fl0
    have hl7 : (upd (upd H6 tq (.tup [.ref w, .int lo, .int hi, vt])) fl (.lst (fvs ++ [.ref tq]))) ll = _ := (upd_ne hlf).trans (n7 _ _ hl6)
    have hf7 : (upd (upd H6 tq (.tup [.ref w, .int lo, .int hi, vt])) fl (.lst (fvs ++ [.ref tq]))) fl = _ := upd_same
    have hq7 : SqT W.K (upd (upd H6 tq (.tup [.ref w, .int lo, .int hi, vt])) fl (.lst (fvs ++ [.ref tq]))) tq [.ref w, .int lo, .int hi, vt] := im_mut (by rw [n7 _ _ hf6]; trivial) _ _ (SqT.of upd_same)
    generalize upd (upd H6 tq (.tup [.ref w, .int lo, .int hi, vt])) fl (.lst (fvs ++ [.ref tq])) = H7 at im7 g7 hl7 hf7 hq7
    have im57 := im6.trans im7
    have b1 := Items.mono im57 hp1
    have b2 := im57 _ _ a2
    have b3 := a3.mono im57
    have bf : Items W.K H7 (fvs ++ [.ref tq]) (fts ++ [t]) := paired_snoc (Items.mono im57 f5) ⟨tq, w, ws, lo, hi, vt, rfl, hq7, b2, b3, a4, a5⟩
    cases t with
    | nil =>
      have ev : vt = .non := b3
      subst ev
      refine ⟨_, rfl, rfl, _, rfl, iteF ?_⟩
      refine ⟨wt lb, by omega, la, lb, _, _, _, _, _, _, rfl, g7, hl7, hf7, b1, bf, rfl, by rw [List.length_append]; show fvs.length + 1 + _ = _; have : Tree.nil.size = 0 := rfl; omega, ?_⟩
      rw [nodes_snoc]
      show nodes fts + 0 + _ = _
      have : Tree.nil.size = 0 := rfl
      omega
    | node kk l r =>
      obtain ⟨tn, vl, vr, rfl, c1, c2, c3⟩ := b3
      obtain ⟨i1, i2, i3, i4⟩ := a4
      have hsz : (Tree.node kk l r).size = l.size + r.size + 1 := rfl
      have hhe : (Tree.node kk l r).height = 1 + max l.height r.height := rfl
      refine ⟨_, rfl, rfl, _, rfl, iteT ?_⟩
      refine ⟨_, rfl, _, rfl, _, rfl, .ref tn, lo, hi, kk, l, r, rfl, ⟨tn, vl, vr, rfl, c1, c2, c3⟩, i1, i2, _, rfl, iteF ?_⟩
      have cat : ∀ (c : Int) (Hx : Hp) (σ : L2.St) (R : VK), σ[5]? = some (some (.ref w)) → SqT W.K Hx w (ws.map V.int) → (∀ w' Hy, Same Hx Hy → SqT W.K Hy w' ((ws ++ [c]).map V.int) → R (.ref w') Hy) → tOp (rCatA W.K) (tVar 5) (tTup (tCons (tC (.int c)) tNil)) σ Hx R := by
        intro c Hx σ R hσ hw hR
        refine ⟨_, hσ, by show 1 ≤ sizeLine; decide, fun t ht => ?_⟩
        have k1 := same_new ht (.tup [.int c])
        refine ⟨w, t, _, _, rfl, rfl, k1.tS hw, SqT.of upd_same, sz_of (by rw [List.length_map]; show ws.length + 1 ≤ _; omega), fun e => ?_, fun _ e => (by cases e), fun _ _ r hr => ?_⟩
        · have : ws = [] := by simpa using e
          exact hR t _ k1 (by rw [this]; exact SqT.of upd_same)
        · exact hR r _ (k1.trans (same_new hr _)) (by rw [List.map_append]; exact SqT.of upd_same)
      have hlal : la.length ≤ 2001 := by
        have e1 := Paired.length hp1
        have e2 : ∀ ts : List Tree, ts.length ≤ wt ts := fun ts => by
          induction ts with
          | nil => exact Nat.le_refl _
          | cons a r ih => show r.length + 1 ≤ (2 * a.size + 1) + wt r; omega
        have := e2 lb
        omega
      refine ⟨_, rfl, .inl ⟨rfl, _, SqL.of hl7⟩, cat 2 _ _ _ rfl b2 fun w2 H8 g8 hw2 => ?_⟩
      refine ⟨_, rfl, tn, _, _, _, rfl, rfl, g8.tS c1, rfl, _, rfl, _, rfl, tn, _, _, _, rfl, rfl, g8.tS c1, rfl, by show 4 ≤ sizeLine; decide, fun qa hqa => ?_⟩
      have na := same_new hqa (.tup [.ref w2, .int kk, .int hi, vr])
      have hl8 := na _ _ (g8 _ _ hl7)
      refine ⟨ll, la, _, rfl, rfl, hl8, sz_lt (by omega), ?_⟩
      have imA : Im W.K H7 (upd (upd H8 qa (.tup [.ref w2, .int kk, .int hi, vr])) ll (.lst (la ++ [.ref qa]))) := (g8.trans na).imS.trans (im_mut (by rw [hl8]; trivial))
      have im89 : Im W.K H8 (upd (upd H8 qa (.tup [.ref w2, .int kk, .int hi, vr])) ll (.lst (la ++ [.ref qa]))) := na.imS.trans (im_mut (by rw [hl8]; trivial))
      have gA := ((g7.trans g8).trans na).mutS (o := .lst (la ++ [.ref qa])) ll0
      have hlA : upd (upd H8 qa (.tup [.ref w2, .int kk, .int hi, vr])) ll (.lst (la ++ [.ref qa])) ll = _ := upd_same
      have hfA : upd (upd H8 qa (.tup [.ref w2, .int kk, .int hi, vr])) ll (.lst (la ++ [.ref qa])) fl = _ := (upd_ne hlf.symm).trans (na _ _ (g8 _ _ hf7))
      have hqA : SqT W.K (upd (upd H8 qa (.tup [.ref w2, .int kk, .int hi, vr])) ll (.lst (la ++ [.ref qa]))) qa [.ref w2, .int kk, .int hi, vr] := im_mut (by rw [hl8]; trivial) _ _ (SqT.of upd_same)
      generalize upd (upd H8 qa (.tup [.ref w2, .int kk, .int hi, vr])) ll (.lst (la ++ [.ref qa])) = H9 at imA im89 gA hlA hfA hqA
      have itA : Item W.K H9 (.ref qa) r := ⟨qa, w2, ws ++ [2], kk, hi, vr, rfl, hqA, im89 _ _ hw2, c3.mono imA, i4, by rw [List.length_append]; show ws.length + 1 + _ ≤ 60; omega⟩
      refine ⟨_, rfl, .inl ⟨rfl, _, SqL.of hlA⟩, cat 1 _ _ _ rfl (imA _ _ b2) fun w3 H10 g10 hw3 => ?_⟩
      refine ⟨_, rfl, _, rfl, tn, _, _, _, rfl, rfl, g10.tS (imA _ _ c1), rfl, _, rfl, tn, _, _, _, rfl, rfl, g10.tS (imA _ _ c1), rfl, by show 4 ≤ sizeLine; decide, fun qb hqb => ?_⟩
      have nb := same_new hqb (.tup [.ref w3, .int lo, .int kk, vl])
      have hl10 := nb _ _ (g10 _ _ hlA)
      refine ⟨ll, _, _, rfl, rfl, hl10, sz_lt (by rw [List.length_append]; show la.length + 1 < _; omega), ?_⟩
      have imB : Im W.K H9 (upd (upd H10 qb (.tup [.ref w3, .int lo, .int kk, vl])) ll (.lst (la ++ [.ref qa] ++ [.ref qb]))) := (g10.trans nb).imS.trans (im_mut (by rw [hl10]; trivial))
      have im1011 : Im W.K H10 (upd (upd H10 qb (.tup [.ref w3, .int lo, .int kk, vl])) ll (.lst (la ++ [.ref qa] ++ [.ref qb]))) := nb.imS.trans (im_mut (by rw [hl10]; trivial))
      have gB := ((gA.trans g10).trans nb).mutS (o := .lst (la ++ [.ref qa] ++ [.ref qb])) ll0
      have hlB : upd (upd H10 qb (.tup [.ref w3, .int lo, .int kk, vl])) ll (.lst (la ++ [.ref qa] ++ [.ref qb])) ll = _ := upd_same
      have hfB : upd (upd H10 qb (.tup [.ref w3, .int lo, .int kk, vl])) ll (.lst (la ++ [.ref qa] ++ [.ref qb])) fl = _ := (upd_ne hlf.symm).trans (nb _ _ (g10 _ _ hfA))
      have hqB : SqT W.K (upd (upd H10 qb (.tup [.ref w3, .int lo, .int kk, vl])) ll (.lst (la ++ [.ref qa] ++ [.ref qb]))) qb [.ref w3, .int lo, .int kk, vl] := im_mut (by rw [hl10]; trivial) _ _ (SqT.of upd_same)
      generalize upd (upd H10 qb (.tup [.ref w3, .int lo, .int kk, vl])) ll (.lst (la ++ [.ref qa] ++ [.ref qb])) = H11 at imB im1011 gB hlB hfB hqB
      have itB : Item W.K H11 (.ref qb) l := ⟨qb, w3, ws ++ [1], lo, kk, vl, rfl, hqB, im1011 _ _ hw3, (c2.mono imA).mono imB, i3, by rw [List.length_append]; show ws.length + 1 + _ ≤ 60; omega⟩
      have imAB := imA.trans imB
      refine ⟨wt (lb ++ [r] ++ [l]), by rw [wt_snoc, wt_snoc]; omega, _, lb ++ [r] ++ [l], _, _, _, _, _, _, rfl, gB, hlB, hfB, paired_snoc (paired_snoc (Items.mono imAB b1) (itA.mono imB)) itB, Items.mono imAB bf, rfl, ?_, ?_⟩
      · rw [wt_snoc, wt_snoc, List.length_append]
        show fvs.length + 1 + _ = _
        omega
      · rw [nodes_snoc, sz_snoc, sz_snoc]
        show nodes fts + 1 + _ = _
        omega
theorem ok_parts_by_form : Cal W 4 "parts_by_form" ["thing"] (spPartsBy W.K) := by
  refine cal_mk (d := d_parts_by_form) Z.g_parts_by_form Z.d_parts_by_form sc_parts_by_form bd_parts_by_form (fun vs H Q E h => ?_) fun f cdv A outer s H vs Q E hr h => ?_
  · obtain ⟨_, _, rfl, _⟩ := h; rfl
  obtain ⟨v, t0, rfl, ht, hb, hh, hs, k⟩ := h
  obtain ⟨_, k_MOST_WORD⟩ := Z.k_MOST_WORD
  refine ⟨_, pss_cons (ps_set (i := 1) sc_parts_by_form.nd rfl (Or.inl rfl) (pe_cal (ok_met_parts Z) (hr.mono (by decide)) (pa_cons (pv 0) (pa_cons (pe_un un_neg pe_int) (pa_cons (pe_gI k_MOST_WORD) pa_nil)))))
      (pss_cons (ps_asg (pe_ix (k_ix_list W.K) (pv 1) (pe_un un_neg pe_int) (fun _ _ => rfl)) (pg_tup rfl (pgs_cons (pg_name (i := 2) sc_parts_by_form.nd rfl (Or.inl rfl)) (pgs_cons (pg_name (i := 3) sc_parts_by_form.nd rfl (Or.inl rfl)) (pgs_cons (pg_name (i := 4) sc_parts_by_form.nd rfl (Or.inl rfl)) (pgs_cons (pg_name (i := 5) sc_parts_by_form.nd rfl (Or.inl rfl)) pgs_nil))))))
      (pss_cons (ps_if (PW.pt (pw_and (pt_cmpR op_notN (pv 5) pe_non (nomark _)) (pw_and1 (pt_not (pt_val (pe_cal (ok_is_part Z) (hr.mono (by decide)) (pa_cons (pv 5) (pa_cons (pv 3) (pa_cons (pv 4) pa_nil))))))))) (pss_one (ps_never)) pss_nil)
      (pss_one (ps_ret (pv 1))))), ?_⟩
  refine ⟨_, rfl, _, rfl, v, -1, 120, t0, rfl, ht, hb, hh, hs, fun l us ts H' g hl hi hne hlen hn => ?_⟩
  obtain ⟨a, x, b, t, rfl, rfl, _, hx⟩ := paired_unsnoc hi hne
  obtain ⟨q1, w, ws, lo, hi', vt, rfl, a1, a2, a3, a4, a5⟩ := hx
  refine ⟨_, rfl, _, rfl, l, _, _, _, rfl, rfl, SqL.of hl, atI_last _ _, ?_⟩
  refine ⟨q1, _, rfl, a1, rfl, _, _, rfl, _, _, rfl, _, _, rfl, _, _, rfl, rfl, ?_⟩
  cases t with
  | nil =>
    have ev : vt = .non := a3
    subst ev
    exact ⟨_, rfl, rfl, _, rfl, iteF (iteF ⟨_, rfl, k l _ _ H' g hl hi hne hlen hn⟩)⟩
  | node kk l' r' =>
    have a3' := a3
    obtain ⟨tn, vl, vr, rfl, c1, c2, c3⟩ := a3
    refine ⟨_, rfl, rfl, _, rfl, iteT ?_⟩
    exact ⟨_, rfl, _, rfl, _, rfl, .ref tn, lo, hi', kk, l', r', rfl, a3', a4.1, a4.2.1, _, rfl, iteF ⟨_, rfl, k l _ _ H' g hl hi hne hlen hn⟩⟩
theorem ok_tree_places : Cal W 5 "tree_places" ["thing"] (spTreePlaces W.K) := by
  refine cal_mk (d := d_tree_places) Z.g_tree_places Z.d_tree_places sc_tree_places bd_tree_places (fun vs H Q E h => ?_) fun f cdv A outer s H vs Q E hr h => ?_
  · obtain ⟨_, _, rfl, _⟩ := h; rfl
  obtain ⟨v, t0, rfl, ht, hb, hh, hs, k⟩ := h
  refine ⟨_, pss_one (ps_ret (pe_callTy (k_tuple_of W.K) (by rfl) Z.m_tuple (by decide +kernel) (pa_cons (pe_callB (k_sorted W.K) (by rfl) Z.m_sorted (by decide +kernel) (pa_cons (pe_lc (own := [("way", 1), ("low", 2), ("high", 3), ("part", 4)]) (g := gTup W.K 4 (gCons (gName 1) (gCons (gName 2) (gCons (gName 3) (gCons (gName 4) gNil))))) rfl sc_tree_places.nd (k_list W.K (pe_cal (ok_parts_by_form Z) (hr.mono (by decide)) (pa_cons (pv 0) pa_nil))) (blkOk_by (own := [("way", 1), ("low", 2), ("high", 3), ("part", 4)]) (N := ["thing", "way", "low", "high", "part"]) (sc := defScope s_tree_places) (by decide +kernel)) (fun _ _ _ _ _ => pg_tup rfl (pgs_cons (pg_name (i := 1) sc_tree_places.nd rfl (Or.inl rfl)) (pgs_cons (pg_name (i := 2) sc_tree_places.nd rfl (Or.inl rfl)) (pgs_cons (pg_name (i := 3) sc_tree_places.nd rfl (Or.inl rfl)) (pgs_cons (pg_name (i := 4) sc_tree_places.nd rfl (Or.inl rfl)) pgs_nil))))) (fun _ _ _ _ _ => pts_one (pt_cmpR op_notN (pv 4) pe_non (nomark _))) (fun _ _ _ _ _ => (pe_ix (k_ix_tup W.K) (pv 4) pe_int (fun _ _ => rfl)))) pa_nil)) pa_nil))), ?_⟩
  refine ⟨_, rfl, v, t0, rfl, ht, hb, hh, hs, fun l us ts H' g hl hi hne hlen hn => ?_⟩
  refine ⟨l, rfl, ⟨_, SqL.of hl⟩, fun D hD => ?_⟩
  have hlt := Paired.length hi
  refine lcF_list ts isNode (fun t => .int (rootI t)) hD (SqL.of hl) hlt (by omega) (fun i y t hy ht2 H2 R N g2 hR hN => ?_) (fun H2 g2 hD2 => ?_)
  · obtain ⟨t', ht', hx⟩ := Paired.at hi hy
    rw [ht2] at ht'
    cases ht'
    obtain ⟨q1, w, ws, lo, hi', vt, rfl, a1, a2, a3, a4, a5⟩ := hx
    refine ⟨q1, _, rfl, g2.tS a1, rfl, _, _, rfl, _, _, rfl, _, _, rfl, _, _, rfl, rfl, rfl, ?_⟩
    cases t with
    | nil =>
      have ev : vt = .non := a3
      subst ev
      exact ⟨_, rfl, rfl, _, rfl, iteF (hN rfl _ (Same.refl _))⟩
    | node kk l' r' =>
      obtain ⟨tn, vl, vr, rfl, c1, c2, c3⟩ := a3
      exact ⟨_, rfl, rfl, _, rfl, iteT ⟨_, rfl, tn, _, _, _, rfl, rfl, g2.tS c1, rfl, hR rfl _ (Same.refl _)⟩⟩
  · have e1 : (ts.filter isNode).map (fun t => V.int (rootI t)) = ((ts.filter isNode).map rootI).map V.int := by rw [List.map_map]; rfl
    rw [e1] at hD2
    refine ⟨D, _, rfl, SqL.of hD2, fun ns p hperm hsorted hp => ?_⟩
    refine ⟨p, _, rfl, .inl ⟨SqL.of upd_same, fun q hq => ?_⟩⟩
    refine k q ns _ (((g.trans g2).trans (same_new hp _)).trans (same_new hq _)) upd_same ?_
    rw [hperm.length_eq, List.length_map]
    exact hn
end
/-! ### products, orders of a tree, the tree of an order -/
def spProductOf (K : PySem.W.Frag) (n : Nat) : Sp := fun vs H Q _ => ∃ (v : V) (t : Tree), vs = [v] ∧ TreeAt K H v t ∧ t.height < n ∧ t.size ≤ 121 ∧
  ∀ q H', Same H H' → H' q = some (.tup [.int ((t.prod : Nat) : Int), .int ((t.size : Nat) : Int)]) → Q (.ref q) H'
def spOrdersOfTree (K : PySem.W.Frag) : Sp := fun vs H Q _ => ∃ (v : V) (t : Tree), vs = [v] ∧ TreeAt K H v t ∧ InB t (-1) 120 ∧ t.height ≤ 60 ∧ t.size ≤ 121 ∧
  ∀ H', Same H H' → Q (.int ((t.exts : Nat) : Int)) H'
def spTreeIn (K : PySem.W.Frag) (n : Nat) : Sp := fun vs H Q _ => ∃ (p : Addr) (o : List Int), vs = [.ref p] ∧ SqT K H p (o.map V.int) ∧ o.length < n ∧ o.length ≤ 1000 ∧
  ∀ v H', Same H H' → TreeAt K H' v (tr o) → Q v H'
def spTreeOf (K : PySem.W.Frag) : Sp := fun vs H Q _ => ∃ (p : Addr) (o : List Int), vs = [.ref p] ∧ SqT K H p (o.map V.int) ∧ o.length ≤ 60 ∧ o.Nodup ∧ (∀ x ∈ o, 0 ≤ x ∧ x < 120) ∧
  ∀ v H', Same H H' → TreeAt K H' v (tr o) → Q v H'
section
variable {W : Wd} (Z : Hd W)
include Z
theorem ok_product_of : ∀ n : Nat, Cal W (n + 1) "product_of" ["part"] (spProductOf W.K n)
  | 0 => by
    refine cal_mk (d := d_product_of) Z.g_product_of Z.d_product_of sc_product_of bd_product_of (fun vs H Q E h => ?_) fun f cdv A outer s H vs Q E hr h => ?_
    · obtain ⟨_, _, rfl, _⟩ := h; rfl
    obtain ⟨v, t, rfl, ht, hh, hs, k⟩ := h
    omega
  | n + 1 => by
    have ih := ok_product_of n
    refine cal_mk (d := d_product_of) Z.g_product_of Z.d_product_of sc_product_of bd_product_of (fun vs H Q E h => ?_) fun f cdv A outer s H vs Q E hr h => ?_
    · obtain ⟨_, _, rfl, _⟩ := h; rfl
    obtain ⟨v, t, rfl, ht, hh, hs, k⟩ := h
    refine ⟨_, pss_cons (ps_if (pt_cmpR op_isN (pv 0) pe_non (nomark _)) (pss_one (ps_ret (pe_tup (pa_cons pe_int (pa_cons pe_int pa_nil))))) pss_nil)
        (pss_cons (ps_asg (pe_cal (ih) (hr.mono (by omega)) (pa_cons (pe_ix (k_ix_tup W.K) (pv 0) pe_int (fun _ _ => rfl)) pa_nil)) (pg_tup rfl (pgs_cons (pg_name (i := 1) sc_product_of.nd rfl (Or.inl rfl)) (pgs_cons (pg_name (i := 2) sc_product_of.nd rfl (Or.inl rfl)) pgs_nil))))
        (pss_cons (ps_asg (pe_cal (ih) (hr.mono (by omega)) (pa_cons (pe_ix (k_ix_tup W.K) (pv 0) pe_int (fun _ _ => rfl)) pa_nil)) (pg_tup rfl (pgs_cons (pg_name (i := 3) sc_product_of.nd rfl (Or.inl rfl)) (pgs_cons (pg_name (i := 4) sc_product_of.nd rfl (Or.inl rfl)) pgs_nil))))
        (pss_one (ps_ret (pe_tup (pa_cons (pe_op op_mulW (pe_op op_mulW (pv 1) (pv 3)) (pe_op op_add (pe_op op_add (pv 2) (pv 4)) pe_int)) (pa_cons (pe_op op_add (pe_op op_add (pv 2) (pv 4)) pe_int) pa_nil))))))), ?_⟩
    cases t with
    | nil =>
      have ev : v = .non := ht
      subst ev
      exact ⟨_, rfl, rfl, _, rfl, iteT ⟨by show 2 ≤ sizeLine; decide, fun q hq => k q _ (same_new hq _) upd_same⟩⟩
    | node kk l r =>
      obtain ⟨tn, vl, vr, rfl, c1, c2, c3⟩ := ht
      have hsz : (Tree.node kk l r).size = l.size + r.size + 1 := rfl
      have hhe : (Tree.node kk l r).height = 1 + max l.height r.height := rfl
      refine ⟨_, rfl, rfl, _, rfl, iteF ?_⟩
      refine ⟨_, rfl, tn, _, _, _, rfl, rfl, c1, rfl, vl, l, rfl, c2, by omega, by omega, fun q1 H1 g1 h1 => ?_⟩
      refine ⟨q1, _, rfl, SqT.of h1, rfl, _, _, rfl, _, _, rfl, rfl, ?_⟩
      refine ⟨_, rfl, tn, _, _, _, rfl, rfl, g1.tS c1, rfl, vr, r, rfl, c3.mono g1.imS, by omega, by omega, fun q2 H2 g2 h2 => ?_⟩
      refine ⟨q2, _, rfl, SqT.of h2, rfl, _, _, rfl, _, _, rfl, rfl, ?_⟩
      have p1 : l.prod < 2 ^ 900 := Nat.lt_of_le_of_lt l.prod_le (fac_lt (by omega))
      have p2 : r.prod < 2 ^ 900 := Nat.lt_of_le_of_lt r.prod_le (fac_lt (by omega))
      refine ⟨_, rfl, _, rfl, _, _, rfl, rfl, wide_mul (natW p1) (natW p2) (by decide) (by decide) (by decide), _, rfl, _, rfl, _, _, rfl, rfl, _, _, rfl, rfl, _, _, rfl, rfl, ?_, _, rfl, _, rfl, _, _, rfl, rfl, _, _, rfl, rfl, by show 2 ≤ sizeLine; decide, fun q hq => ?_⟩
      · refine wide_mul (b := 900) (wide_lt (natW p1) (natW p2)) ?_ (by decide) (by decide) (by decide)
        have : (l.size : Int) + (r.size : Int) + 1 < 200 := by omega
        omega
      · refine k q _ ((g1.trans g2).trans (same_new hq _)) ?_
        rw [upd_same]
        show some (HO.tup [V.int (((l.prod : Nat) : Int) * ((r.prod : Nat) : Int) * (((l.size : Nat) : Int) + ((r.size : Nat) : Int) + 1)), V.int (((l.size : Nat) : Int) + ((r.size : Nat) : Int) + 1)]) = some (HO.tup [V.int ((l.prod * r.prod * (l.size + r.size + 1) : Nat) : Int), V.int ((l.size + r.size + 1 : Nat) : Int)])
        simp only [Int.natCast_mul, Int.natCast_add]
        rfl
theorem ok_orders_of_tree : Cal W 63 "orders_of_tree" ["tree"] (spOrdersOfTree W.K) := by
  have ih := ok_product_of Z 61
  refine cal_mk (d := d_orders_of_tree) Z.g_orders_of_tree Z.d_orders_of_tree sc_orders_of_tree bd_orders_of_tree (fun vs H Q E h => ?_) fun f cdv A outer s H vs Q E hr h => ?_
  · obtain ⟨_, _, rfl, _⟩ := h; rfl
  obtain ⟨v, t, rfl, ht, hb, hh, hs, k⟩ := h
  refine ⟨_, pss_one (ps_ret (pe_op op_fdivW (pe_ix (k_ix_list W.K) (pe_cal (ok_all_rows Z) (hr.mono (by decide)) (pa_cons (pe_callB (k_len_seq W.K) (by rfl) Z.m_len (by decide +kernel) (pa_cons (pe_cal (ok_tree_places Z) (hr.mono (by decide)) (pa_cons (pv 0) pa_nil)) pa_nil)) pa_nil)) (pe_un un_neg pe_int) (fun _ _ => rfl)) (pe_ix (k_ix_tup W.K) (pe_cal (ih) (hr.mono (by decide)) (pa_cons (pv 0) pa_nil)) pe_int (fun _ _ => rfl)))), ?_⟩
  refine ⟨_, rfl, v, t, rfl, ht, hb, hh, by omega, fun q ns H1 g1 hq hns => ?_⟩
  have hq' := SqT.of (K := W.K) hq
  refine ⟨q, _, rfl, .inr hq', t.size, by rw [List.length_map, hns]; rfl, hs, fun l H2 g2 _ hl => ?_⟩
  have hlast : atI ((facs (t.size + 1)).map V.int) (-1) = some (.int ((fac t.size : Nat) : Int)) := by
    rw [facs_succ, List.map_append]
    exact atI_last _ _
  refine ⟨_, rfl, l, _, _, _, rfl, rfl, SqL.of hl, hlast, ?_⟩
  refine ⟨_, rfl, v, t, rfl, ht.mono (g1.trans g2).imS, by omega, hs, fun q2 H3 g3 hq2 => ?_⟩
  have p1 : t.prod < 2 ^ 900 := Nat.lt_of_le_of_lt t.prod_le (fac_lt (by omega))
  refine ⟨q2, _, _, _, rfl, rfl, SqT.of hq2, rfl, _, _, rfl, rfl, wide_div (by have := t.prod_pos; omega) (natW p1) (by decide) (by decide), ?_⟩
  have e : ((fac t.size : Nat) : Int) / ((t.prod : Nat) : Int) = ((t.exts : Nat) : Int) := by
    rw [← t.fac_div]
    rfl
  show Q (.int (((fac t.size : Nat) : Int) / ((t.prod : Nat) : Int))) H3
  rw [e]
  exact k H3 ((g1.trans g2).trans g3)
theorem ok_tree_in : ∀ n : Nat, Cal W (n + 1) "tree_in" ["order"] (spTreeIn W.K n)
  | 0 => by
    refine cal_mk (d := d_tree_in) Z.g_tree_in Z.d_tree_in sc_tree_in bd_tree_in (fun vs H Q E h => ?_) fun f cdv A outer s H vs Q E hr h => ?_
    · obtain ⟨_, _, rfl, _⟩ := h; rfl
    obtain ⟨p, o, rfl, hp, hl, hl2, k⟩ := h
    omega
  | n + 1 => by
    have ih := ok_tree_in n
    refine cal_mk (d := d_tree_in) Z.g_tree_in Z.d_tree_in sc_tree_in bd_tree_in (fun vs H Q E h => ?_) fun f cdv A outer s H vs Q E hr h => ?_
    · obtain ⟨_, _, rfl, _⟩ := h; rfl
    obtain ⟨p, o, rfl, hp, hl, hl2, k⟩ := h
    refine ⟨_, pss_cons (ps_if (pt_cmpR (k_op_eqD W.K hr.units) (pv 0) (pe_tup pa_nil) (nomark _)) (pss_one (ps_ret pe_non)) pss_nil)
        (pss_cons (ps_set (i := 1) sc_tree_in.nd rfl (Or.inr rfl) (pe_ix (k_ix_tup W.K) (pv 0) (pe_un un_neg pe_int) (fun _ _ => rfl)))
        (pss_cons (ps_par (i := 2) (j := 3) (by rfl) sc_tree_in.nd rfl rfl (by decide) rfl rfl (pa_cons (pe_callTy (k_tuple_of W.K) (by rfl) Z.m_tuple (by decide +kernel) (pa_cons (pe_lc (own := [("one", 4)]) (g := gName 4) rfl sc_tree_in.nd (k_tup W.K (pv 0)) (blkOk_by (own := [("one", 4)]) (N := ["order", "last", "less", "more", "one"]) (sc := defScope s_tree_in) (by decide +kernel)) (fun _ _ _ _ _ => pg_name (i := 4) sc_tree_in.nd rfl (Or.inl rfl)) (fun _ _ _ _ _ => pts_one (pt_cmpR op_lt (pv 4) (pv 1) (nomark _))) (fun _ _ _ _ _ => (pv 4))) pa_nil)) (pa_cons (pe_callTy (k_tuple_of W.K) (by rfl) Z.m_tuple (by decide +kernel) (pa_cons (pe_lc (own := [("one", 4)]) (g := gName 4) rfl sc_tree_in.nd (k_tup W.K (pv 0)) (blkOk_by (own := [("one", 4)]) (N := ["order", "last", "less", "more", "one"]) (sc := defScope s_tree_in) (by decide +kernel)) (fun _ _ _ _ _ => pg_name (i := 4) sc_tree_in.nd rfl (Or.inl rfl)) (fun _ _ _ _ _ => pts_one (pt_cmpR op_gt (pv 4) (pv 1) (nomark _))) (fun _ _ _ _ _ => (pv 4))) pa_nil)) pa_nil)) (by rfl))
        (pss_one (ps_ret (pe_tup (pa_cons (pv 1) (pa_cons (pe_cal (ih) (hr.mono (by omega)) (pa_cons (pv 2) pa_nil)) (pa_cons (pe_cal (ih) (hr.mono (by omega)) (pa_cons (pv 3) pa_nil)) pa_nil)))))))), ?_⟩
    refine ⟨_, rfl, by show 0 ≤ sizeLine; decide, fun e he => ?_⟩
    have ge := same_new he (.tup [])
    refine ⟨_, _, dp_tI (ge.tS hp), dp_t0 upd_same, shaped_tI _, shaped_tI _, _, rfl, ?_⟩
    rw [eqv_tI]
    generalize upd H e (.tup []) = H1 at ge
    rcases List.eq_nil_or_concat o with e0 | ⟨o', x, e0⟩
    · subst e0
      rw [decide_eq_true rfl]
      exact iteT (k .non H1 ge rfl)
    · rw [List.concat_eq_append] at e0
      subst e0
      rw [decide_eq_false (by simp)]
      rw [List.length_append] at hl hl2
      have hp1 := ge.tS hp
      have hl' : o'.length + 1 < n + 1 := hl
      have hl2' : o'.length + 1 ≤ 1000 := hl2
      refine iteF ⟨_, rfl, _, rfl, p, _, _, _, rfl, rfl, hp1, by rw [List.map_append]; exact atI_last _ _, ?_⟩
      refine ⟨_, rfl, p, rfl, ⟨_, hp1⟩, fun D hD => ?_⟩
      refine lcF_tup (o' ++ [x]) (fun y => decide (y < x)) V.int hD hp1 (by rw [List.length_map]) (by rw [List.length_append]; show o'.length + 1 ≤ _; omega) (fun i v y hv hy H2 R N g2 hR hN => ?_) (fun H2 g2 hD2 => ?_)
      · obtain rfl := mapI2 hv hy
        refine ⟨rfl, _, rfl, _, rfl, _, _, rfl, rfl, _, rfl, ?_⟩
        by_cases c : y < x
        · rw [decide_eq_true c]
          exact iteT ⟨_, rfl, hR (decide_eq_true c) _ (Same.refl _)⟩
        · rw [decide_eq_false c]
          exact iteF (hN (decide_eq_false c) _ (Same.refl _))
      · have g12 := ge.trans g2
        refine ⟨D, _, rfl, .inl ⟨SqL.of hD2, fun tl htl => ?_⟩⟩
        have g3 := same_new htl (.tup (((o' ++ [x]).filter fun y => decide (y < x)).map V.int))
        have htl3 : upd H2 tl (.tup (((o' ++ [x]).filter fun y => decide (y < x)).map V.int)) tl = _ := upd_same
        have g123 := g12.trans g3
        generalize upd H2 tl (.tup (((o' ++ [x]).filter fun y => decide (y < x)).map V.int)) = H3 at g3 htl3 g123
        have hp3 := g123.tS hp
        refine ⟨_, rfl, p, rfl, ⟨_, hp3⟩, fun D2 hD20 => ?_⟩
        refine lcF_tup (o' ++ [x]) (fun y => decide (x < y)) V.int hD20 hp3 (by rw [List.length_map]) (by rw [List.length_append]; show o'.length + 1 ≤ _; omega) (fun i v y hv hy H4 R N g4 hR hN => ?_) (fun H4 g4 hD4 => ?_)
        · obtain rfl := mapI2 hv hy
          refine ⟨rfl, _, rfl, _, rfl, _, _, rfl, rfl, _, rfl, ?_⟩
          by_cases c : x < y
          · rw [decide_eq_true c]
            exact iteT ⟨_, rfl, hR (decide_eq_true c) _ (Same.refl _)⟩
          · rw [decide_eq_false c]
            exact iteF (hN (decide_eq_false c) _ (Same.refl _))
        · refine ⟨D2, _, rfl, .inl ⟨SqL.of hD4, fun tm htm => ?_⟩⟩
          have g5 := same_new htm (.tup (((o' ++ [x]).filter fun y => decide (x < y)).map V.int))
          have htm5 : upd H4 tm (.tup (((o' ++ [x]).filter fun y => decide (x < y)).map V.int)) tm = _ := upd_same
          have htl5 := g5 _ _ (g4 _ _ htl3)
          have g15 := (g123.trans g4).trans g5
          generalize upd H4 tm (.tup (((o' ++ [x]).filter fun y => decide (x < y)).map V.int)) = H5 at g5 htm5 htl5 g15
          have f1 : ((o' ++ [x]).filter fun y => decide (y < x)) = o'.filter fun y => decide (y < x) := by rw [List.filter_append]; simp
          have f2 : ((o' ++ [x]).filter fun y => decide (x < y)) = o'.filter fun y => decide (x < y) := by rw [List.filter_append]; simp
          rw [f1] at htl5
          rw [f2] at htm5
          have l1 := List.length_filter_le (fun y => decide (y < x)) o'
          have l2 := List.length_filter_le (fun y => decide (x < y)) o'
          refine ⟨_, _, rfl, _, rfl, _, rfl, tl, _, rfl, SqT.of htl5, by omega, by omega, fun v1 H6 g6 t1 => ?_⟩
          refine ⟨_, rfl, tm, _, rfl, SqT.of (g6 _ _ htm5), by omega, by omega, fun v2 H7 g7 t2 => ?_⟩
          refine ⟨by show 3 ≤ sizeLine; decide, fun q hq => ?_⟩
          have g8 := same_new hq (.tup [.int x, v1, v2])
          refine k (.ref q) _ (((g15.trans g6).trans g7).trans g8) ?_
          rw [tr_snoc]
          exact ⟨q, v1, v2, rfl, SqT.of upd_same, (t1.mono g7.imS).mono g8.imS, t2.mono g8.imS⟩
theorem ok_tree_of : Cal W 63 "tree_of" ["order"] (spTreeOf W.K) := by
  have ih := ok_tree_in Z 61
  refine cal_mk (d := d_tree_of) Z.g_tree_of Z.d_tree_of sc_tree_of bd_tree_of (fun vs H Q E h => ?_) fun f cdv A outer s H vs Q E hr h => ?_
  · obtain ⟨_, _, rfl, _⟩ := h; rfl
  obtain ⟨p, o, rfl, hp, hl, hn, hr0, k⟩ := h
  obtain ⟨_, k_MOST_WORD⟩ := Z.k_MOST_WORD
  refine ⟨_, pss_cons (ps_if (PW.pt (pw_or (pt_not (pt_val (pe_callB (k_is W.K) (by rfl) Z.m_isinstance (by decide +kernel) (pa_cons (pv 0) (pa_cons (pe_bltn (v := .ty "tuple") (by rfl) Z.m_tuple (by decide +kernel) rfl) pa_nil))))) (pw_or1 (pt_cmpR op_gt (pe_callB (k_len_seq W.K) (by rfl) Z.m_len (by decide +kernel) (pa_cons (pv 0) pa_nil)) (pe_gI k_MOST_WORD) (nomark _))))) (pss_one (ps_never)) pss_nil)
      (pss_cons (ps_if (PW.pt (pw_or (pt_not (pt_val (pe_callB (k_all W.K) (by rfl) Z.m_all (by decide +kernel) (pa_cons (pe_lc (own := [("one", 1)]) (g := gName 1) rfl sc_tree_of.nd (k_tup W.K (pv 0)) (blkOk_by (own := [("one", 1)]) (N := ["order", "one"]) (sc := defScope s_tree_of) (by decide +kernel)) (fun _ _ _ _ _ => pg_name (i := 1) sc_tree_of.nd rfl (Or.inl rfl)) (fun _ _ _ _ _ => pts_nil) (fun _ _ _ _ _ => (pe_iwm Z (hr.mono (by decide)) (pv 1) (pe_op op_sub (pe_gI k_MOST_WORD) pe_int)))) pa_nil)))) (pw_or1 (pt_cmpR op_ne (k_lenSetT W.K (by rfl) Z.m_len (by rfl) Z.m_set (pv 0)) (pe_callB (k_len_seq W.K) (by rfl) Z.m_len (by decide +kernel) (pa_cons (pv 0) pa_nil)) (nomark _))))) (pss_one (ps_never)) pss_nil)
      (pss_one (ps_ret (pe_cal (ih) (hr.mono (by decide)) (pa_cons (pv 0) pa_nil))))), ?_⟩
  refine ⟨_, rfl, _, "tuple", "tuple", true, rfl, tyT hp, by decide +kernel, _, rfl, ?_⟩
  refine iteF ⟨_, rfl, p, _, rfl, .inr hp, _, _, rfl, rfl, _, rfl, ?_⟩
  have e0 : decide ((120 : Int) < ((o.map V.int).length : Int)) = false := decide_eq_false (by rw [List.length_map]; omega)
  rw [e0]
  refine iteF ?_
  refine ⟨_, rfl, p, rfl, ⟨_, hp⟩, fun D hD => ?_⟩
  refine lcF_tup o (fun _ => true) (fun _ => .bl true) hD hp (by rw [List.length_map]) (by omega) (fun i v y hv hy H2 R N g2 hR hN => ?_) (fun H2 g2 hD2 => ?_)
  · obtain rfl := mapI2 hv hy
    have hr1 := hr0 y (List.mem_of_getElem? hy)
    refine ⟨rfl, _, rfl, _, _, rfl, rfl, rfl, rfl, y, 0, _, rfl, ?_⟩
    rw [decide_eq_true (by constructor <;> omega)]
    exact hR rfl _ (Same.refl _)
  · rw [filter_tt] at hD2
    refine ⟨D, o.map fun _ => true, rfl, SqL.of (by rw [hD2, List.map_map]; rfl), _, rfl, ?_⟩
    have e1 : (o.map fun _ => true).all id = true := by rw [List.all_map, List.all_eq_true]; intro _ _; rfl
    rw [e1]
    refine iteF ?_
    have hp2 := g2.tS hp
    refine ⟨_, rfl, p, o, rfl, hp2, hn, by omega, _, rfl, p, _, rfl, .inr hp2, rfl, _, rfl, ?_⟩
    have e2 : (!decide (V.int (o.length : Nat) = V.int ((o.map V.int).length : Nat))) = false := by rw [List.length_map]; simp
    rw [e2]
    refine iteF ?_
    exact ⟨_, rfl, p, o, rfl, hp2, by omega, by omega, fun v H3 g3 t => k v H3 (g2.trans g3) t⟩
end
end Sl
/-! SlW9 -/
namespace Sl
open PySem PySem.Spec PyProof.Rows L2
/-! ### loops over zip of lists of unlike lengths, a dict of an enumeration -/
theorem for_zipM {K : PySem.W.Frag} {a b : Addr} {xs ys : List V} {g : TG} {tb : TS} {D : Ends} {σ : L2.St} {H : Hp} (n : Nat) (h1 : n ≤ xs.length) (h2 : n ≤ ys.length) (h3 : n = xs.length ∨ n = ys.length) (Pv : Nat → L2.St → Hp → Prop) (h0 : Pv 0 σ H)
    (hq : ∀ i σ H, Pv i σ H → SqL K H a xs ∧ SqL K H b ys)
    (hs : ∀ (i : Nat) (x y : V) (T : Addr) (σ : L2.St) (H : Hp), xs[i]? = some x → ys[i]? = some y → i < n → Pv i σ H → H T = none → g (.ref T) σ (upd H T (.tup [x, y])) fun σ2 H2 => tb { D with nx := Pv (i + 1), ct := Pv (i + 1), bk := D.nx } σ2 H2) (hd : ∀ σ H, Pv n σ H → D.nx σ H) :
    ∃ W : Nat → Nat → L2.St → Hp → Prop, (∃ m, W 0 m σ H) ∧ ∀ i m σ H, W i m σ H →
      ((Itz K a b).stop i H ∧ D.nx σ H) ∨ ((Itz K a b).go i H ∧ ∃ N : L2.St → Hp → Prop, (∀ σ' H', N σ' H' → ∃ m', m' < m ∧ W (i + 1) m' σ' H') ∧ ∀ v H', (Itz K a b).yld i H v H' → g v σ H' fun σ2 H2 => tb { D with nx := N, ct := N, bk := D.nx } σ2 H2) := by
  refine ⟨fun i m σ H => m = n - i ∧ i ≤ n ∧ Pv i σ H, ⟨n, rfl, Nat.zero_le _, h0⟩, ?_⟩
  rintro i m σ H ⟨rfl, hi, p⟩
  obtain ⟨qx, qy⟩ := hq i σ H p
  by_cases hlt : i < n
  · have hx : xs[i]? = some (xs[i]'(by omega)) := List.getElem?_eq_getElem (by omega)
    have hy : ys[i]? = some (ys[i]'(by omega)) := List.getElem?_eq_getElem (by omega)
    refine .inr ⟨⟨xs, ys, _, _, qx, qy, hx, hy⟩, Pv (i + 1), fun σ' H' p' => ⟨n - (i + 1), by omega, rfl, hlt, p'⟩, fun v H' y => ?_⟩
    obtain ⟨T, x', y', rfl, hT, rfl, f1, f2⟩ := y
    exact hs i x' y' T σ H (f1 xs qx) (f2 ys qy) hlt p hT
  · have e : i = n := by omega
    subst e
    refine .inl ⟨⟨xs, ys, qx, qy, ?_⟩, hd σ H p⟩
    rcases h3 with e | e
    · exact .inl (by omega)
    · exact .inr (by omega)
theorem dc_enumT {K : PySem.W.Frag} {a : Addr} {xs : List V} {g : TG} {tt : TT} {tk tv : TE} {vs : List Nat} {σ : L2.St} {H1 : Hp} {D : Addr} {Qd : Hp → Prop} (Pv : Nat → Hp → Prop) (h0 : Pv 0 (upd H1 D (.dK []))) (hl : ∀ i H, i ≤ xs.length → Pv i H → SqT K H a xs)
    (hs : ∀ i x H T, xs[i]? = some x → Pv i H → H T = none → g (.ref T) (wipe σ vs) (upd H T (.tup [.int (i : Nat), x])) fun σ2 H2 => wipe σ2 vs = wipe σ vs ∧ tt σ2 H2 fun b H3 =>
      if b = true then tk σ2 H3 fun y H4 => tv σ2 H4 fun z H5 => ∃ kvs k, y = kV k ∧ H5 D = some (.dK kvs) ∧ kvs.length < sizeLine ∧ Pv (i + 1) (upd H5 D (.dK (putK kvs k z))) else Pv (i + 1) H3) (hd : ∀ H, Pv xs.length H → Qd H) :
    ∃ W : Nat → Nat → Hp → Prop, (∃ m, W 0 m (upd H1 D (.dK []))) ∧ ∀ i m H, W i m H →
      ((IteT K a).stop i H ∧ Qd H) ∨ ((IteT K a).go i H ∧ ∃ Nx : Hp → Prop, (∀ H', Nx H' → ∃ m', m' < m ∧ W (i + 1) m' H') ∧ ∀ x H', (IteT K a).yld i H x H' → g x (wipe σ vs) H' fun σ2 H2 => wipe σ2 vs = wipe σ vs ∧ tt σ2 H2 fun b H3 =>
        if b = true then tk σ2 H3 fun y H4 => tv σ2 H4 fun z H5 => ∃ kvs k, y = kV k ∧ H5 D = some (.dK kvs) ∧ kvs.length < sizeLine ∧ Nx (upd H5 D (.dK (putK kvs k z))) else Nx H3) := by
  refine ⟨fun i m H => m = xs.length - i ∧ i ≤ xs.length ∧ Pv i H, ⟨xs.length, by simp, Nat.zero_le _, h0⟩, ?_⟩
  rintro i m H ⟨rfl, hi, p⟩
  have q := hl i H hi p
  by_cases hlt : i < xs.length
  · refine .inr ⟨⟨xs, xs[i], q, by simp [hlt]⟩, Pv (i + 1), fun H' p' => ⟨xs.length - (i + 1), by omega, rfl, hlt, p'⟩, fun x H' y => ?_⟩
    obtain ⟨T, v, rfl, hT, rfl, y⟩ := y
    exact hs i v H T (y xs q) p hT
  · have e : i = xs.length := by omega
    subst e
    exact .inl ⟨⟨xs, q, rfl⟩, hd H p⟩
section
variable {X : Cx} {W : Wd} (Z : Hd W) {e e2 e3 : Expr} {t : TA} {p pos : Pos}
omit Z in
theorem bi_run {f : Addr} {fd : FuncData} (F : FunD W.K "run" "run" d_run.params d_run.body d_run.scope [] [("ring", .bl false)] f fd) :
    ∃ ds, Vals [V.bl false] ds ∧ Binds W.K fd ["word", "book", "order", "ring"] ds :=
  FunD.binds0 F 3 (by decide) rfl fun D doc pm an cdv ct us ks h1 h2 =>
    match us, ks, h1, h2 with | [u, v, x], [a], _, _ => ⟨_, _, _, _, _, _, rfl, rfl, rfl⟩
include Z
theorem pe_run (hr : Room 8 X.A) (ha : PA X [e, e2, e3] t) (hg : Gl X "run" := by rfl) (he : starEach (e :: [e2, e3]) X.env = (false, eval e X.env) :: starEach [e2, e3] X.env := by rfl)
    (hpl : (backTo pos (starEach [e2, e3] X.env)).any (·.1) = false := by rfl) (hW : Wof X = W := by rfl) :
    PE X (.Call (.Name "run" p) [e, e2, e3] [] pos) (tCall (spRun W.K) [.bl false] E0 t) := by
  subst hW
  obtain ⟨f, fd, a, b, F, D⟩ := ok_run4 Z
  obtain ⟨ds, hd, hb⟩ := bi_run D
  exact pe_call F hr hg a b hb hd pass0 ha (by decide) he hpl
end
theorem cut1 (x : V) (r : List V) : cutV (x :: r) (some 1) none = r := by
  unfold cutV
  have e1 : HT.sIx (x :: r).length 0 (some 1) = 1 := by
    unfold HT.sIx
    simp
  have e2 : HT.sIx (x :: r).length (x :: r).length none = (x :: r).length := by
    unfold HT.sIx
    simp
  rw [e1, e2]
  simp
theorem sc_forest_of : FnScope ["word", "order", "standing", "ends", "found", "low", "high", "place"] ["word", "order", "standing"] (defScope s_forest_of) := ⟨rfl, rfl, rfl, by decide +kernel, rfl, by decide +kernel, by decide +kernel⟩
theorem bd_forest_of : Bnd d_forest_of ["word", "order", "standing"] := fun _ _ _ _ _ _ us hl => match us, hl with | [_, _, _], _ => rfl
theorem sc_two_forests : FnScope ["word", "book", "one", "other", "some", "more"] ["word", "book", "one", "other"] (defScope s_two_forests) := ⟨rfl, rfl, rfl, by decide +kernel, rfl, by decide +kernel, by decide +kernel⟩
theorem bd_two_forests : Bnd d_two_forests ["word", "book", "one", "other"] := fun _ _ _ _ _ _ us hl => match us, hl with | [_, _, _, _], _ => rfl
theorem sc_are_one : FnScope ["word", "book", "one", "other", "mine", "its"] ["word", "book", "one", "other"] (defScope s_are_one) := ⟨rfl, rfl, rfl, by decide +kernel, rfl, by decide +kernel, by decide +kernel⟩
theorem bd_are_one : Bnd d_are_one ["word", "book", "one", "other"] := fun _ _ _ _ _ _ us hl => match us, hl with | [_, _, _, _], _ => rfl
theorem sc_how_many_one : FnScope ["word", "book", "order", "standing", "found", "part"] ["word", "book", "order"] (defScope s_how_many_one) := ⟨rfl, rfl, rfl, by decide +kernel, rfl, by decide +kernel, by decide +kernel⟩
theorem bd_how_many_one : Bnd d_how_many_one ["word", "book", "order"] := fun _ _ _ _ _ _ us hl => match us, hl with | [_, _, _], _ => rfl
theorem sc_exchanged : FnScope ["one", "other", "spots", "at", "place", "left", "found", "turn"] ["one", "other"] (defScope s_exchanged) := ⟨rfl, rfl, rfl, by decide +kernel, rfl, by decide +kernel, by decide +kernel⟩
theorem bd_exchanged : Bnd d_exchanged ["one", "other"] := fun _ _ _ _ _ _ us hl => match us, hl with | [_, _], _ => rfl
theorem sc_exchange_row : FnScope ["word", "book", "one", "other", "mine", "its"] ["word", "book", "one", "other"] (defScope s_exchange_row) := ⟨rfl, rfl, rfl, by decide +kernel, rfl, by decide +kernel, by decide +kernel⟩
theorem bd_exchange_row : Bnd d_exchange_row ["word", "book", "one", "other"] := fun _ _ _ _ _ _ us hl => match us, hl with | [_, _, _, _], _ => rfl
theorem sc_far_apart : FnScope ["word", "book", "one", "other", "found"] ["word", "book", "one", "other"] (defScope s_far_apart) := ⟨rfl, rfl, rfl, by decide +kernel, rfl, by decide +kernel, by decide +kernel⟩
theorem bd_far_apart : Bnd d_far_apart ["word", "book", "one", "other"] := fun _ _ _ _ _ _ us hl => match us, hl with | [_, _, _, _], _ => rfl
/-- a callable with its def at hand -/
def CalD (W : Wd) (k : Nat) (d : He.DefD) (x : Str) (ps : List Str) (sp : Sp) : Prop :=
  ∃ f fd, W.mg x = some (.ref f) ∧ PySem.W.keepIn W.K (.ref f) = true ∧ FnOk W.P W.w W.K W.mg W.base CX0 k f fd ps sp ∧ FunD W.K d.name d.qual d.params d.body d.scope (d.dvs W.K) (d.kws W.K) f fd
theorem cal_mkD {W : Wd} {d : He.DefD} {N ps : List Str} {k : Nat} {sp : Sp} {x : Str} (hx : W.mg x = some (.ref (He.fAd W.K d.at_))) (hF : ∃ fd, FunD W.K d.name d.qual d.params d.body d.scope (d.dvs W.K) (d.kws W.K) (He.fAd W.K d.at_) fd)
    (S : FnScope N ps d.scope) (len : Len ps sp) (body : Bdy W d N k sp) : CalD W (k + 1) d x ps sp := by
  obtain ⟨fd, F⟩ := hF
  exact ⟨_, fd, hx, F.kp, fnk F S len body, F⟩
theorem CalD.cal {W : Wd} {d : He.DefD} {ps : List Str} {k : Nat} {sp : Sp} {x : Str} (c : CalD W k d x ps sp) (hd : d.dfl = []) (hk : d.kwd = []) (b : Bnd d ps) : Cal W k x ps sp := by
  obtain ⟨f, fd, a, b', F, D⟩ := c
  exact ⟨f, fd, a, b', F, bnd0 D hd hk b⟩
/-- an order that runs -/
structure Ord (z : Str) (rs : List Rule) (o st : List Int) (c : Int) : Prop where
  nd : o.Nodup
  rg : ∀ x ∈ o, 0 ≤ x ∧ x < (z.cps.size : Int)
  run : runTo (pr z rs) (z.cps.size : Int) (upTo z.cps.size) o = some (st, c)
  len : o.length ≤ 59
def spForestOf (K : PySem.W.Frag) : Sp := fun vs H Q _ => ∃ (z : Str) (po ps : Addr) (o st : List Int), vs = [.str z, .ref po, .ref ps] ∧ GoodW z ∧ SqT K H po (o.map V.int) ∧ SqT K H ps (st.map V.int) ∧ o.length ≤ 59 ∧ st.length ≤ 120 ∧
  ∀ l us H', Same H H' → H' l = some (.lst us) → TreesAt K H' us (forest (z.cps.size : Int) o st) → Q (.ref l) H'
section
variable {W : Wd} (Z : Hd W)
include Z
theorem ok_forest_of : Cal W 63 "forest_of" ["word", "order", "standing"] (spForestOf W.K) := by
  have ih := ok_tree_in Z 61
  refine cal_mk (d := d_forest_of) Z.g_forest_of Z.d_forest_of sc_forest_of bd_forest_of (fun vs H Q E h => ?_) fun f cdv A outer s H vs Q E hr h => ?_
  · obtain ⟨_, _, _, _, _, rfl, _⟩ := h; rfl
  obtain ⟨z, po, ps, o, st, rfl, hz, ho, hst, hol, hsl, k⟩ := h
  refine ⟨_, pss_cons (ps_set (i := 3) sc_forest_of.nd rfl (Or.inl rfl) (pe_op op_cat (pe_op op_cat (pe_lst (pa_cons (pe_un un_neg pe_int) pa_nil)) (pe_callTy (k_list_of W.K) (by rfl) Z.m_list (by decide +kernel) (pa_cons (pv 2) pa_nil))) (pe_lst (pa_cons (pe_callB call_len_str (by rfl) Z.m_len (by decide +kernel) (pa_cons (pv 0) pa_nil)) pa_nil))))
      (pss_cons (ps_set (i := 4) sc_forest_of.nd rfl (Or.inl rfl) (pe_lst pa_nil))
      (pss_cons (ps_for PassesOwn.never rfl (pi_zipK (by rfl) Z.m_zip (pa_cons (pv 3) (pa_cons (pe_slice (k_sl_list W.K) (pv 3) (po_some pe_int) po_none) pa_nil))) (pg_tup rfl (pgs_cons (pg_name (i := 5) sc_forest_of.nd rfl (Or.inr rfl)) (pgs_cons (pg_name (i := 6) sc_forest_of.nd rfl (Or.inr rfl)) pgs_nil))) (pss_one (ps_expr (k_append W.K (pv 4) (pe_cal (ih) (hr.mono (by decide)) (pa_cons (pe_callTy (k_tuple_of W.K) (by rfl) Z.m_tuple (by decide +kernel) (pa_cons (pe_lc (own := [("place", 7)]) (g := gName 7) rfl sc_forest_of.nd (k_tup W.K (pv 1)) (blkOk_by (own := [("place", 7)]) (N := ["word", "order", "standing", "ends", "found", "low", "high", "place"]) (sc := defScope s_forest_of) (by decide +kernel)) (fun _ _ _ _ _ => pg_name (i := 7) sc_forest_of.nd rfl (Or.inl rfl)) (fun _ _ _ _ _ => pts_one (pt_chain op_lt op_lt (pv 5) (pv 7) (pv 6))) (fun _ _ _ _ _ => (pv 7))) pa_nil)) pa_nil))))))
      (pss_one (ps_ret (pv 4))))), ?_⟩
  have hzl := hz.len
  refine ⟨_, rfl, by show 1 ≤ sizeLine; decide, fun l1 h1 => ⟨_, rfl, ps, _, rfl, .inr ((same_new h1 _).tS hst), fun l2 h2 => ?_⟩⟩
  have g1 := same_new h1 (.lst [.int (-1)])
  have g2 := g1.trans (same_new h2 (.lst (st.map V.int)))
  refine ⟨l1, l2, _, _, rfl, rfl, same_new h2 _ _ _ upd_same, upd_same, sz_of (by rw [List.length_map]; show 1 + st.length ≤ _; omega), fun l3 h3 => ?_⟩
  have g3 := g2.trans (same_new h3 (.lst ([.int (-1)] ++ st.map V.int)))
  refine ⟨_, rfl, z, rfl, sz_of (by show z.cps.size ≤ _; omega), by show 1 ≤ sizeLine; decide, fun l4 h4 => ?_⟩
  have g4 := g3.trans (same_new h4 (.lst [.int (z.cps.size : Nat)]))
  refine ⟨l3, l4, _, _, rfl, rfl, same_new h4 _ _ _ upd_same, upd_same, sz_of (by rw [List.length_append, List.length_map]; show 1 + st.length + 1 ≤ _; omega), fun l5 h5 => ?_⟩
  have g5 := g4.trans (same_new h5 (.lst ([.int (-1)] ++ st.map V.int ++ [.int (z.cps.size : Nat)])))
  have e5 : upd (upd (upd (upd (upd H l1 (.lst [.int (-1)])) l2 (.lst (st.map V.int))) l3 (.lst ([.int (-1)] ++ st.map V.int))) l4 (.lst [.int (z.cps.size : Nat)])) l5 (.lst ([.int (-1)] ++ st.map V.int ++ [.int (z.cps.size : Nat)])) l5 = some (.lst ((ends (z.cps.size : Int) st).map V.int)) := by
    rw [upd_same]
    unfold ends
    rw [List.map_append, List.map_append]
    rfl
  have hE : (ends (z.cps.size : Int) st).length = st.length + 2 := by unfold ends; simp
  obtain ⟨e0, er, hEe⟩ : ∃ e0 er, ends (z.cps.size : Int) st = e0 :: er := ⟨-1, st ++ [(z.cps.size : Int)], rfl⟩
  refine ⟨by show 0 ≤ sizeLine; decide, fun fl hfl => ?_⟩
  have fl0 : H fl = none := same_free g5 hfl
  have g6 := g5.trans (same_new hfl (.lst []))
  have e6 := same_new hfl (.lst []) _ _ e5
  have f6 : upd (upd (upd (upd (upd (upd H l1 (.lst [.int (-1)])) l2 (.lst (st.map V.int))) l3 (.lst ([.int (-1)] ++ st.map V.int))) l4 (.lst [.int (z.cps.size : Nat)])) l5 (.lst ([.int (-1)] ++ st.map V.int ++ [.int (z.cps.size : Nat)]))) fl (.lst []) fl = _ := upd_same
  refine ⟨_, rfl, _, rfl, 1, rfl, l5, _, rfl, SqL.of e6, fun l7 h7 => ?_⟩
  have g7 := g6.trans (same_new h7 (.lst (cutV ((ends (z.cps.size : Int) st).map V.int) (some 1) none)))
  have fl7 : fl ≠ l7 := ne_of_none f6 h7
  have hcut : cutV ((ends (z.cps.size : Int) st).map V.int) (some 1) none = (ends (z.cps.size : Int) st).tail.map V.int := by rw [hEe, List.map_cons, cut1]; rfl
  have htl : (ends (z.cps.size : Int) st).tail.length = st.length + 1 := by rw [List.length_tail, hE]; rfl
  have l5f : l5 ≠ fl := ne_of_none e5 hfl
  refine ⟨l5, l7, (ends (z.cps.size : Int) st).map V.int, (ends (z.cps.size : Int) st).tail.map V.int, rfl, SqL.of (same_new h7 _ _ _ e6), SqL.of (by rw [upd_same, hcut]), ?_⟩
  refine for_zipM (xs := (ends (z.cps.size : Int) st).map V.int) (ys := (ends (z.cps.size : Int) st).tail.map V.int) (st.length + 1) (by rw [List.length_map, hE]; omega) (by rw [List.length_map, htl]; exact Nat.le_refl _) (.inr (by rw [List.length_map, htl]))
    (fun i σ H' => ∃ w5 w6 us, σ = [some (.str z), some (.ref po), some (.ref ps), some (.ref l5), some (.ref fl), w5, w6, none] ∧ Same H H' ∧ H' l5 = some (.lst ((ends (z.cps.size : Int) st).map V.int)) ∧ H' l7 = some (.lst ((ends (z.cps.size : Int) st).tail.map V.int)) ∧
      H' fl = some (.lst us) ∧ TreesAt W.K H' us ((forest (z.cps.size : Int) o st).take i))
    ⟨_, _, [], rfl, g7, same_new h7 _ _ _ e6, by rw [upd_same, hcut], same_new h7 _ _ _ f6, .nil⟩ (fun i σ H' q => ?_) (fun i x y T σ H' hx hy hi q hT => ?_) (fun σ H' q => ?_)
  · obtain ⟨w5, w6, us, _, _, a1, a2, _⟩ := q
    exact ⟨SqL.of a1, SqL.of a2⟩
  · obtain ⟨w5, w6, us, rfl, g, a1, a2, a3, a4⟩ := q
    obtain ⟨lo, hlo, rfl⟩ := mapI hx
    obtain ⟨hi', hhi, rfl⟩ := mapI hy
    have hgp : (gapsOf (z.cps.size : Int) st)[i]? = some (lo, hi') := by
      unfold gapsOf
      rw [List.getElem?_zip_eq_some]
      exact ⟨hlo, hhi⟩
    have hfo : (forest (z.cps.size : Int) o st)[i]? = some (tr (part o lo hi')) := by
      unfold forest
      rw [List.getElem?_map, hgp]
      rfl
    have n1 := same_new hT (.tup [.int lo, .int hi'])
    have g1' := g.trans n1
    refine ⟨T, _, rfl, SqT.of upd_same, rfl, _, _, rfl, _, _, rfl, rfl, ?_⟩
    have b1 := n1 _ _ a1
    have b2 := n1 _ _ a2
    have b3 := n1 _ _ a3
    have b4 := a4.mono n1.imS
    generalize upd H' T (.tup [.int lo, .int hi']) = H8 at n1 g1' b1 b2 b3 b4
    refine ⟨_, rfl, .inl ⟨rfl, _, SqL.of b3⟩, _, rfl, po, rfl, ⟨_, g1'.tS ho⟩, fun D hD => ?_⟩
    refine lcF_tup o (fun x => decide (lo < x) && decide (x < hi')) V.int hD (g1'.tS ho) (by rw [List.length_map]) (by omega) (fun i v y hv hy H2 R N g2 hR hN => ?_) (fun H2 g2 hD2 => ?_)
    · obtain rfl := mapI2 hv hy
      refine ⟨rfl, _, rfl, _, rfl, _, _, rfl, rfl, _, rfl, ?_⟩
      by_cases c : lo < y
      · rw [decide_eq_true c]
        refine iteT ⟨_, rfl, _, _, rfl, rfl, _, rfl, ?_⟩
        by_cases c2 : y < hi'
        · rw [decide_eq_true c2]
          exact iteT ⟨_, rfl, hR (by rw [decide_eq_true c, decide_eq_true c2]; rfl) _ (Same.refl _)⟩
        · rw [decide_eq_false c2]
          exact iteF (hN (by rw [decide_eq_false c2]; simp) _ (Same.refl _))
      · rw [decide_eq_false c]
        refine iteF ⟨_, rfl, iteF (hN (by rw [decide_eq_false c]; rfl) _ (Same.refl _))⟩
    · refine ⟨D, _, rfl, .inl ⟨SqL.of hD2, fun t1 ht1 => ?_⟩⟩
      have n3 := same_new ht1 (.tup ((part o lo hi').map V.int))
      have pl : (part o lo hi').length ≤ 59 := Nat.le_trans (List.length_filter_le _ _) hol
      refine ⟨t1, part o lo hi', rfl, SqT.of upd_same, by omega, by omega, fun v H9 g9 tv => ?_⟩
      have g89 := (g2.trans n3).trans g9
      refine ⟨fl, us, _, rfl, rfl, g89 _ _ b3, sz_lt ?_, ?_⟩
      · have := Paired.length b4
        rw [List.length_take] at this
        omega
      have hfl9 := g89 _ _ b3
      have im := (im_mut (K := W.K) (p := fl) (o := .lst (us ++ [v])) (H := H9) (by rw [hfl9]; trivial))
      refine ⟨_, _, us ++ [v], rfl, (g1'.trans g89).mutS fl0, ?_, ?_, upd_same, ?_⟩
      · rw [upd_ne l5f]
        exact g89 _ _ b1
      · rw [upd_ne fl7.symm]
        exact g89 _ _ b2
      · rw [take_snoc hfo]
        exact paired_snoc ((b4.mono g89.imS).mono im) (tv.mono im)
  · obtain ⟨w5, w6, us, rfl, g, a1, a2, a3, a4⟩ := q
    have hfl : (forest (z.cps.size : Int) o st).length = st.length + 1 := by
      unfold forest gapsOf
      rw [List.length_map, List.length_zip, htl, hE]
      omega
    rw [List.take_of_length_le (by omega)] at a4
    exact ⟨_, rfl, k fl us H' g a3 a4⟩
end
def spTwoForests (K : PySem.W.Frag) : Sp := fun vs H Q _ => ∃ (z : Str) (bp p1 p2 : Addr) (xs : List V) (rs : List Rule) (o1 o2 st : List Int) (c1 c2 : Int), vs = [.str z, .ref bp, .ref p1, .ref p2] ∧ GoodW z ∧ GoodB rs ∧ BookAt K H bp xs rs ∧
  SqT K H p1 (o1.map V.int) ∧ SqT K H p2 (o2.map V.int) ∧ Ord z rs o1 st c1 ∧ Ord z rs o2 st c2 ∧ st.length ≤ 120 ∧
  ∀ q l1 l2 us1 us2 H', Same H H' → H' q = some (.tup [.ref l1, .ref l2]) → H' l1 = some (.lst us1) → H' l2 = some (.lst us2) → TreesAt K H' us1 (forest (z.cps.size : Int) o1 st) → TreesAt K H' us2 (forest (z.cps.size : Int) o2 st) → Q (.ref q) H'
def spAreOne (K : PySem.W.Frag) : Sp := fun vs H Q _ => ∃ (z : Str) (bp p1 p2 : Addr) (xs : List V) (rs : List Rule) (o1 o2 st : List Int) (c1 c2 : Int), vs = [.str z, .ref bp, .ref p1, .ref p2] ∧ GoodW z ∧ GoodB rs ∧ BookAt K H bp xs rs ∧
  SqT K H p1 (o1.map V.int) ∧ SqT K H p2 (o2.map V.int) ∧ Ord z rs o1 st c1 ∧ Ord z rs o2 st c2 ∧
  ∀ H', Same H H' → Q (.bl (decide (forest (z.cps.size : Int) o1 st = forest (z.cps.size : Int) o2 st))) H'
def spHowManyOne (K : PySem.W.Frag) : Sp := fun vs H Q _ => ∃ (z : Str) (bp p1 : Addr) (xs : List V) (rs : List Rule) (o st : List Int) (c : Int), vs = [.str z, .ref bp, .ref p1] ∧ GoodW z ∧ GoodB rs ∧ BookAt K H bp xs rs ∧
  SqT K H p1 (o.map V.int) ∧ Ord z rs o st c ∧
  ∀ H', Same H H' → Q (.int (((forest (z.cps.size : Int) o st).foldl (fun f t => f / t.prod) (fac o.length) : Nat) : Int)) H'
theorem runTo_sub {pr : Pr} {n : Int} : ∀ {o st st1 : List Int} {c : Int}, runTo pr n st o = some (st1, c) → st1.length ≤ st.length
  | [], st, st1, c, h => by
    have e : some (st, (0 : Int)) = some (st1, c) := h
    have e1 : st = st1 := congrArg Prod.fst (Option.some.inj e)
    rw [e1]
    exact Nat.le_refl _
  | x :: o, st, st1, c, h => by
    obtain ⟨h1, c1, h2, h3⟩ := runTo_cons h
    have := runTo_sub h3
    have := List.length_erase_of_mem h1
    omega
theorem tr_height (o : List Int) : (tr o).height ≤ o.length := by
  refine snocInd (P := fun o => (tr o).height ≤ o.length) (Nat.le_refl _) (fun o x ih => ?_) o
  rw [tr_snoc, List.length_append]
  have a1 := List.length_filter_le (fun y => decide (y < x)) o
  have a2 := List.length_filter_le (fun y => decide (x < y)) o
  have h1 := ih (o.filter fun y => decide (y < x)) a1
  have h2 := ih (o.filter fun y => decide (x < y)) a2
  show 1 + max (tr _).height (tr _).height ≤ o.length + 1
  omega
theorem forest_small {n : Int} {o st : List Int} {k : Nat} (h : o.length ≤ k) : ∀ t ∈ forest n o st, t.height ≤ k := by
  intro t ht
  unfold forest at ht
  obtain ⟨g, _, rfl⟩ := List.mem_map.mp ht
  exact Nat.le_trans (tr_height _) (Nat.le_trans (List.length_filter_le _ _) h)
section
variable {W : Wd} (Z : Hd W)
include Z
theorem ok_two_forests : Cal W 64 "two_forests" ["word", "book", "one", "other"] (spTwoForests W.K) := by
  refine cal_mk (d := d_two_forests) Z.g_two_forests Z.d_two_forests sc_two_forests bd_two_forests (fun vs H Q E h => ?_) fun f cdv A outer s H vs Q E hr h => ?_
  · obtain ⟨_, _, _, _, _, _, _, _, _, _, _, rfl, _⟩ := h; rfl
  obtain ⟨z, bp, p1, p2, xs, rs, o1, o2, st, c1, c2, rfl, hz, hg, hb, h1, h2, r1, r2, hst, k⟩ := h
  refine ⟨_, pss_cons (ps_set (i := 4) sc_two_forests.nd rfl (Or.inl rfl) (pe_ix (k_ix_tup W.K) (pe_run Z (hr.mono (by decide)) (pa_cons (pv 0) (pa_cons (pv 1) (pa_cons (pv 2) pa_nil)))) pe_int (fun _ _ => rfl)))
      (pss_cons (ps_set (i := 5) sc_two_forests.nd rfl (Or.inl rfl) (pe_ix (k_ix_tup W.K) (pe_run Z (hr.mono (by decide)) (pa_cons (pv 0) (pa_cons (pv 1) (pa_cons (pv 3) pa_nil)))) pe_int (fun _ _ => rfl)))
      (pss_cons (ps_if (pt_cmpR (k_op_neD W.K hr.units) (pv 4) (pv 5) (nomark _)) (pss_one (ps_never)) pss_nil)
      (pss_one (ps_ret (pe_tup (pa_cons (pe_cal (ok_forest_of Z) (hr.mono (by decide)) (pa_cons (pv 0) (pa_cons (pv 2) (pa_cons (pv 4) pa_nil)))) (pa_cons (pe_cal (ok_forest_of Z) (hr.mono (by decide)) (pa_cons (pv 0) (pa_cons (pv 3) (pa_cons (pv 5) pa_nil)))) pa_nil))))))), ?_⟩
  refine ⟨_, rfl, _, rfl, _, rfl, bp, p1, xs, z, rs, o1, st, c1, rfl, hz, hg, hb, h1, r1.nd, r1.rg, r1.run, fun q r H1 g1 hq hr2 => ?_⟩
  refine ⟨r, _, _, _, rfl, rfl, SqT.of hr2, rfl, ?_⟩
  refine ⟨_, rfl, _, rfl, _, rfl, bp, p2, xs, z, rs, o2, st, c2, rfl, hz, hg, hb.mono g1.imS, g1.tS h2, r2.nd, r2.rg, r2.run, fun q2 r3 H2 g2 hq2 hr3 => ?_⟩
  refine ⟨r3, _, _, _, rfl, rfl, SqT.of hr3, rfl, ?_⟩
  have g12 := g1.trans g2
  refine ⟨_, rfl, _, rfl, _, _, dp_tI (SqT.of (g2 _ _ hq)), dp_tI (SqT.of hq2), shaped_tI _, shaped_tI _, _, rfl, ?_⟩
  rw [eqv_tI, decide_eq_true rfl]
  refine iteF ?_
  refine ⟨_, rfl, _, rfl, _, rfl, z, p1, q, o1, st, rfl, hz, g12.tS h1, SqT.of (g2 _ _ hq), r1.len, hst, fun l1 us1 H3 g3 hl1 ht1 => ?_⟩
  refine ⟨_, rfl, _, rfl, _, rfl, z, p2, q2, o2, st, rfl, hz, g3.tS (g12.tS h2), SqT.of (g3 _ _ hq2), r2.len, hst, fun l2 us2 H4 g4 hl2 ht2 => ?_⟩
  refine ⟨by show 2 ≤ sizeLine; decide, fun t ht => ?_⟩
  have g5 := same_new ht (.tup [.ref l1, .ref l2])
  exact k t l1 l2 us1 us2 _ (((g12.trans g3).trans g4).trans g5) upd_same (g5 _ _ (g4 _ _ hl1)) (g5 _ _ hl2) ((ht1.mono g4.imS).mono g5.imS) (ht2.mono g5.imS)
theorem ok_are_one : Cal W 65 "are_one" ["word", "book", "one", "other"] (spAreOne W.K) := by
  refine cal_mk (d := d_are_one) Z.g_are_one Z.d_are_one sc_are_one bd_are_one (fun vs H Q E h => ?_) fun f cdv A outer s H vs Q E hr h => ?_
  · obtain ⟨_, _, _, _, _, _, _, _, _, _, _, rfl, _⟩ := h; rfl
  obtain ⟨z, bp, p1, p2, xs, rs, o1, o2, st, c1, c2, rfl, hz, hg, hb, h1, h2, r1, r2, k⟩ := h
  refine ⟨_, pss_cons (ps_asg (pe_cal (ok_two_forests Z) (hr.mono (by decide)) (pa_cons (pv 0) (pa_cons (pv 1) (pa_cons (pv 2) (pa_cons (pv 3) pa_nil))))) (pg_tup rfl (pgs_cons (pg_name (i := 4) sc_are_one.nd rfl (Or.inl rfl)) (pgs_cons (pg_name (i := 5) sc_are_one.nd rfl (Or.inl rfl)) pgs_nil))))
      (pss_one (ps_ret (pe_cmpR (k_op_eqD W.K hr.units) (pv 4) (pv 5) (nomark _)))), ?_⟩
  have hst : st.length ≤ 120 := by
    have := runTo_sub r1.run
    rw [upTo_len] at this
    exact Nat.le_trans this hz.len
  refine ⟨_, rfl, _, rfl, _, rfl, _, rfl, z, bp, p1, p2, xs, rs, o1, o2, st, c1, c2, rfl, hz, hg, hb, h1, h2, r1, r2, hst, fun q l1 l2 us1 us2 H1 g1 hq hl1 hl2 t1 t2 => ?_⟩
  refine ⟨q, _, rfl, SqT.of hq, rfl, _, _, rfl, _, _, rfl, rfl, ?_⟩
  have s1 := forest_small (n := (z.cps.size : Int)) (st := st) (Nat.le_trans r1.len (by decide : 59 ≤ 60))
  have s2 := forest_small (n := (z.cps.size : Int)) (st := st) (Nat.le_trans r2.len (by decide : 59 ≤ 60))
  refine ⟨_, rfl, _, rfl, .list (pTrees (forest (z.cps.size : Int) o1 st)), .list (pTrees (forest (z.cps.size : Int) o2 st)), .lst (SqL.of hl1) t1.dp, .lst (SqL.of hl2) t2.dp, shaped_trees s1, shaped_trees s2, ?_⟩
  have e : PyData.eqv (.list (pTrees (forest (z.cps.size : Int) o1 st))) (.list (pTrees (forest (z.cps.size : Int) o2 st))) = decide (forest (z.cps.size : Int) o1 st = forest (z.cps.size : Int) o2 st) := by simp only [PyData.eqv]; exact pTrees_eqv _ _
  rw [e]
  exact k H1 g1
theorem ok_how_many_oneD : CalD W 65 d_how_many_one "how_many_one" ["word", "book", "order"] (spHowManyOne W.K) := by
  have ih := ok_product_of Z 61
  refine cal_mkD (d := d_how_many_one) Z.g_how_many_one Z.d_how_many_one sc_how_many_one (fun vs H Q E h => ?_) fun f cdv A outer s H vs Q E hr h => ?_
  · obtain ⟨_, _, _, _, _, _, _, _, rfl, _⟩ := h; rfl
  obtain ⟨z, bp, p1, xs, rs, o, st, c, rfl, hz, hg, hb, h1, r1, k⟩ := h
  refine ⟨_, pss_cons (ps_set (i := 3) sc_how_many_one.nd rfl (Or.inl rfl) (pe_ix (k_ix_tup W.K) (pe_run Z (hr.mono (by decide)) (pa_cons (pv 0) (pa_cons (pv 1) (pa_cons (pv 2) pa_nil)))) pe_int (fun _ _ => rfl)))
      (pss_cons (ps_set (i := 4) sc_how_many_one.nd rfl (Or.inl rfl) (pe_ix (k_ix_list W.K) (pe_cal (ok_all_rows Z) (hr.mono (by decide)) (pa_cons (pe_callB (k_len_seq W.K) (by rfl) Z.m_len (by decide +kernel) (pa_cons (pv 2) pa_nil)) pa_nil)) (pe_un un_neg pe_int) (fun _ _ => rfl)))
      (pss_cons (ps_for PassesOwn.never rfl (k_list W.K (pe_cal (ok_forest_of Z) (hr.mono (by decide)) (pa_cons (pv 0) (pa_cons (pv 2) (pa_cons (pv 3) pa_nil))))) (pg_name (i := 5) sc_how_many_one.nd rfl (Or.inl rfl)) (pss_one (ps_aug (i := 4) sc_how_many_one.nd rfl (Or.inl rfl) (pe_ix (k_ix_tup W.K) (pe_cal (ih) (hr.mono (by decide)) (pa_cons (pv 5) pa_nil)) pe_int (fun _ _ => rfl)) iop_fdivW)))
      (pss_one (ps_ret (pv 4))))), ?_⟩
  have hst : st.length ≤ 120 := by
    have := runTo_sub r1.run
    rw [upTo_len] at this
    exact Nat.le_trans this hz.len
  have hol := r1.len
  refine ⟨_, rfl, _, rfl, _, rfl, bp, p1, xs, z, rs, o, st, c, rfl, hz, hg, hb, h1, r1.nd, r1.rg, r1.run, fun q r H1 g1 hq hr2 => ?_⟩
  refine ⟨r, _, _, _, rfl, rfl, SqT.of hr2, rfl, ?_⟩
  refine ⟨_, rfl, p1, _, rfl, .inr (g1.tS h1), o.length, by rw [List.length_map]; rfl, by omega, fun lf H2 g2 _ hlf => ?_⟩
  have hlast : atI ((facs (o.length + 1)).map V.int) (-1) = some (.int ((fac o.length : Nat) : Int)) := by
    rw [facs_succ, List.map_append]
    exact atI_last _ _
  refine ⟨_, rfl, lf, _, _, _, rfl, rfl, SqL.of hlf, hlast, ?_⟩
  have g12 := g1.trans g2
  refine ⟨_, rfl, _, rfl, _, rfl, z, p1, q, o, st, rfl, hz, g12.tS h1, SqT.of (g2 _ _ hq), hol, hst, fun l us H3 g3 hl ht => ?_⟩
  have hfold : ∀ i : Nat, (((forest (z.cps.size : Int) o st).take i).foldl (fun f t => f / t.prod) (fac o.length)) = (((forest (z.cps.size : Int) o st).take i).foldl (fun f t => f / t.prod) (fac o.length)) := fun _ => rfl
  have ht3 := g12.trans g3
  refine ⟨l, rfl, ⟨_, SqL.of hl⟩, for_list (xs := us) (fun i σ H' => ∃ w, σ = [some (.str z), some (.ref bp), some (.ref p1), some (.ref q), some (.int (((((forest (z.cps.size : Int) o st).take i).foldl (fun f t => f / t.prod) (fac o.length)) : Nat) : Int)), w] ∧ Same H3 H')
    ⟨_, rfl, Same.refl _⟩ (fun i σ H' _ q => ?_) (fun i x σ H' hx q => ?_) (fun σ H' q => ?_)⟩
  · obtain ⟨_, _, g⟩ := q
    exact g.seq (SqL.of hl)
  · obtain ⟨w, rfl, g⟩ := q
    obtain ⟨t, htt, hxt⟩ := Paired.at ht hx
    have hmem := List.mem_of_getElem? htt
    have hts : t.size ≤ 59 := by
      unfold forest at hmem
      obtain ⟨gg, _, rfl⟩ := List.mem_map.mp hmem
      rw [tr_size (part o gg.1 gg.2) (r1.nd.filter _)]
      exact Nat.le_trans (List.length_filter_le _ _) hol
    have hth := t.height_le
    refine ⟨_, rfl, _, rfl, x, t, rfl, hxt.mono g.imS, by omega, by omega, fun q2 H4 g4 hq2 => ?_⟩
    have p1' : t.prod < 2 ^ 900 := Nat.lt_of_le_of_lt t.prod_le (fac_lt (by omega))
    refine ⟨q2, _, _, _, rfl, rfl, SqT.of hq2, rfl, _, _, rfl, rfl, wide_div (by have := t.prod_pos; omega) (natW p1') (by decide) (by decide), some x, ?_, g.trans g4⟩
    rw [take_snoc htt, List.foldl_append]
    rfl
  · obtain ⟨w, rfl, g⟩ := q
    have hul := Paired.length ht
    rw [List.take_of_length_le (by omega)]
    exact ⟨_, rfl, k H' (ht3.trans g)⟩
theorem ok_how_many_one : Cal W 65 "how_many_one" ["word", "book", "order"] (spHowManyOne W.K) := (ok_how_many_oneD Z).cal rfl rfl bd_how_many_one
end
/-! ### exchanges -/
theorem ixN_of {n j : Nat} (h : j < n) : ixN n (j : Int) = some j := by
  unfold ixN
  simp
  omega
def spExchanged (K : PySem.W.Frag) : Sp := fun vs H Q _ => ∃ (p1 p2 : Addr) (o1 o2 : List Int), vs = [.ref p1, .ref p2] ∧ SqT K H p1 (o1.map V.int) ∧ SqT K H p2 (o2.map V.int) ∧ o2.Nodup ∧ (∀ x ∈ o1, x ∈ o2) ∧ o1.length ≤ 59 ∧ o2.length ≤ 59 ∧
  ∀ q (ms : List Int) H', Same H H' → H' q = some (.tup (ms.map V.int)) → ms.length = pairs o1 o2 → Q (.ref q) H'
def spExchangeRow (K : PySem.W.Frag) : Sp := fun vs H Q _ => ∃ (z : Str) (bp p1 p2 : Addr) (xs : List V) (rs : List Rule) (o1 o2 st : List Int) (c1 c2 : Int), vs = [.str z, .ref bp, .ref p1, .ref p2] ∧ GoodW z ∧ GoodB rs ∧ BookAt K H bp xs rs ∧
  SqT K H p1 (o1.map V.int) ∧ SqT K H p2 (o2.map V.int) ∧ Ord z rs o1 st c1 ∧ Ord z rs o2 st c2 ∧ (∀ x ∈ o1, x ∈ o2) ∧
  ∀ v H', Same H H' → (if forest (z.cps.size : Int) o1 st = forest (z.cps.size : Int) o2 st then ∃ q ms, v = .ref q ∧ H' q = some (.tup ((ms : List Int).map V.int)) ∧ ms.length = pairs o1 o2 else v = .non) → Q v H'
def spFarApart (K : PySem.W.Frag) : Sp := fun vs H Q _ => ∃ (z : Str) (bp p1 p2 : Addr) (xs : List V) (rs : List Rule) (o1 o2 st : List Int) (c1 c2 : Int), vs = [.str z, .ref bp, .ref p1, .ref p2] ∧ GoodW z ∧ GoodB rs ∧ BookAt K H bp xs rs ∧
  SqT K H p1 (o1.map V.int) ∧ SqT K H p2 (o2.map V.int) ∧ Ord z rs o1 st c1 ∧ Ord z rs o2 st c2 ∧ (∀ x ∈ o1, x ∈ o2) ∧
  ∀ H', Same H H' → Q (if forest (z.cps.size : Int) o1 st = forest (z.cps.size : Int) o2 st then .int ((pairs o1 o2 : Nat) : Int) else .non) H'
section
variable {W : Wd} (Z : Hd W)
include Z
theorem ok_exchanged : Cal W 1 "exchanged" ["one", "other"] (spExchanged W.K) := by
  refine cal_mk (d := d_exchanged) Z.g_exchanged Z.d_exchanged sc_exchanged bd_exchanged (fun vs H Q E h => ?_) fun f cdv A outer s H vs Q E hr h => ?_
  · obtain ⟨_, _, _, _, rfl, _⟩ := h; rfl
  obtain ⟨p1, p2, o1, o2, rfl, h1, h2, hn, hs, hl1, hl2, k⟩ := h
  refine ⟨_, pss_cons (ps_set (i := 2) sc_exchanged.nd rfl (Or.inr rfl) (pe_dc (own := [("at", 3), ("place", 4)]) (g := gTup W.K 2 (gCons (gName 3) (gCons (gName 4) gNil))) rfl sc_exchanged.nd (pi_enumT (by rfl) Z.m_enumerate (pa_cons (pv 1) pa_nil)) (blkOk_by (own := [("at", 3), ("place", 4)]) (N := ["one", "other", "spots", "at", "place", "left", "found", "turn"]) (sc := defScope s_exchanged) (by decide +kernel)) (fun _ _ _ _ _ => pg_tup rfl (pgs_cons (pg_name (i := 3) sc_exchanged.nd rfl (Or.inl rfl)) (pgs_cons (pg_name (i := 4) sc_exchanged.nd rfl (Or.inl rfl)) pgs_nil))) (fun _ _ _ _ _ => pts_nil) (fun _ _ _ _ _ => (pv 4)) (fun _ _ _ _ _ => (pv 3))))
      (pss_cons (ps_par (i := 5) (j := 6) (by rfl) sc_exchanged.nd rfl rfl (by decide) rfl rfl (pa_cons (pe_lc (own := [("place", 4)]) (g := gName 4) rfl sc_exchanged.nd (k_tup W.K (pv 0)) (blkOk_by (own := [("place", 4)]) (N := ["one", "other", "spots", "at", "place", "left", "found", "turn"]) (sc := defScope s_exchanged) (by decide +kernel)) (fun _ _ _ _ _ => pg_name (i := 4) sc_exchanged.nd rfl (Or.inl rfl)) (fun _ _ _ _ _ => pts_nil) (fun _ _ _ _ _ => (pe_dget (hu_of hr) (pv 2) (pv 4) (fun _ _ => rfl)))) (pa_cons (pe_lst pa_nil) pa_nil)) (by rfl))
      (pss_cons (ps_for PassesOwn.never rfl (pi_range1 (by rfl) Z.m_range (pa_cons (pe_callB (k_len_seq W.K) (by rfl) Z.m_len (by decide +kernel) (pa_cons (pv 5) pa_nil)) pa_nil)) (pg_name (i := 7) sc_exchanged.nd rfl (Or.inl rfl)) (pss_one (ps_for PassesOwn.never rfl (pi_range1 (by rfl) Z.m_range (pa_cons (pe_op op_sub (pe_op op_sub (pe_callB (k_len_seq W.K) (by rfl) Z.m_len (by decide +kernel) (pa_cons (pv 5) pa_nil)) pe_int) (pv 7)) pa_nil)) (pg_name (i := 3) sc_exchanged.nd rfl (Or.inl rfl)) (pss_one (ps_if (pt_cmpR op_gt (pe_ix (k_ix_list W.K) (pv 5) (pv 3) (fun _ _ => rfl)) (pe_ix (k_ix_list W.K) (pv 5) (pe_op op_add (pv 3) pe_int) (fun _ _ => rfl)) (nomark _)) (pss_cons (ps_asg (pe_tup (pa_cons (pe_ix (k_ix_list W.K) (pv 5) (pe_op op_add (pv 3) pe_int) (fun _ _ => rfl)) (pa_cons (pe_ix (k_ix_list W.K) (pv 5) (pv 3) (fun _ _ => rfl)) pa_nil))) (pg_tup rfl (pgs_cons (pg_sub (pv 5) (pv 3) set_list) (pgs_cons (pg_sub (pv 5) (pe_op op_add (pv 3) pe_int) set_list) pgs_nil))))
      (pss_one (ps_expr (k_append W.K (pv 6) (pv 3))))) pss_nil)))))
      (pss_one (ps_ret (pe_callTy (k_tuple_of W.K) (by rfl) Z.m_tuple (by decide +kernel) (pa_cons (pv 6) pa_nil)))))), ?_⟩
  refine ⟨_, rfl, p2, _, rfl, h2, fun S hS => ?_⟩
  have S0 : H S = none := hS
  refine dc_enumT (xs := o2.map V.int) (fun i H' => ∃ kv : List (Key × V), Same H H' ∧ H' S = some (.dK kv) ∧ kv.length ≤ i ∧ ∀ j x, j < i → o2[j]? = some x → valV kv (.inl x) = some (.int (j : Nat)))
    ⟨[], same_new hS _, upd_same, Nat.le_refl _, fun j x hj => absurd hj (Nat.not_lt_zero j)⟩ (fun i H' _ q => ?_) (fun i x H' T hx q hT => ?_) (fun H' q => ?_)
  · obtain ⟨kv, g, _⟩ := q
    exact g.tS h2
  · obtain ⟨kv, g, e1, e2, e3⟩ := q
    obtain ⟨n, hn', rfl⟩ := mapI hx
    have hi := (List.getElem?_eq_some_iff.mp hn').1
    have n1 := same_new hT (.tup [.int (i : Nat), .int n])
    refine ⟨T, _, rfl, SqT.of upd_same, rfl, _, _, rfl, _, _, rfl, rfl, rfl, _, rfl, _, rfl, kv, .inl n, rfl, n1 _ _ e1, sz_lt (by omega), putK kv (.inl n) (.int (i : Nat)), (g.trans n1).mutS S0, upd_same, ?_, fun j x hj hx' => ?_⟩
    · have := length_putK kv (.inl n) (V.int (i : Nat))
      omega
    · rw [valV_put]
      by_cases c : j = i
      · subst c
        rw [hx'] at hn'
        cases hn'
        rw [if_pos rfl]
      · rw [if_neg]
        · exact e3 j x (by omega) hx'
        · intro e
          have e' : x = n := Sum.inl.inj e
          subst e'
          have := (List.getElem?_inj (by exact (List.getElem?_eq_some_iff.mp hx').1) hn).mp (hx'.trans hn'.symm)
          omega
  · obtain ⟨kv, g, e1, e2, e3⟩ := q
    rw [List.length_map] at e3
    refine ⟨_, rfl, p1, rfl, ⟨_, g.tS h1⟩, fun D hD => ?_⟩
    refine lcF_tup o1 (fun _ => true) (fun x => .int ((spotOf o2 x : Nat) : Int)) hD (g.tS h1) (by rw [List.length_map]) (by omega) (fun i v y hv hy H2 R N g2 hR hN => ?_) (fun H2 g2 hD2 => ?_)
    · obtain rfl := mapI2 hv hy
      have hyo := spot_get (hs y (List.mem_of_getElem? hy))
      have hv2 := e3 _ y (List.getElem?_eq_some_iff.mp hyo.1).1 hyo.1
      refine ⟨rfl, _, rfl, _, rfl, S, .int ((spotOf o2 y : Nat) : Int), rfl, ?_, hR rfl _ (Same.refl _)⟩
      rw [← hv2]
      exact DGet.k (k := .inl y) (g2 _ _ e1)
    · rw [filter_tt] at hD2
      have hL0 : H2 D = some (.lst ((o1.map fun x => ((spotOf o2 x : Nat) : Int)).map V.int)) := by rw [hD2, List.map_map]; rfl
      have hlen0 : (o1.map fun x => ((spotOf o2 x : Nat) : Int)).length = o1.length := List.length_map _
      have hpairs : pairs o1 o2 = inv (o1.map fun x => ((spotOf o2 x : Nat) : Int)) := rfl
      generalize (o1.map fun x => ((spotOf o2 x : Nat) : Int)) = L0 at hL0 hlen0 hpairs
      have g02 := g.trans g2
      have D0 : H D = none := same_free g hD
      refine ⟨by show 0 ≤ sizeLine; decide, fun fl hfl => ⟨_, _, rfl, ?_⟩⟩
      have fl0 : H fl = none := same_free g02 hfl
      have gf := same_new hfl (.lst [])
      have hDf : D ≠ fl := ne_of_none hL0 hfl
      refine ⟨_, rfl, D, _, rfl, .inl (SqL.of (gf _ _ hL0)), _, rfl, by omega, by rw [List.length_map]; omega, ?_⟩
      rw [List.length_map, hlen0]
      refine for_range (fun i σ H' => ∃ w3 w4 w7 L ms, σ = [some (.ref p1), some (.ref p2), some (.ref S), w3, w4, some (.ref D), some (.ref fl), w7] ∧ Same H H' ∧ H' D = some (.lst ((L : List Int).map V.int)) ∧ H' fl = some (.lst ((ms : List Int).map V.int)) ∧ L.length = o1.length ∧ inv L + ms.length = inv L0 ∧ ms.length ≤ 60 * i ∧
          ∀ a b, a < b → b < o1.length → o1.length ≤ b + i → L.getD a 0 ≤ L.getD b 0)
        ⟨_, _, _, L0, [], rfl, g02.trans gf, gf _ _ hL0, upd_same, hlen0, by simp, Nat.le_refl _, fun a b h1 h2 h3 => by omega⟩ (fun i σ H' hi q => ?_) (fun σ H' q => ?_)
      · obtain ⟨w3, w4, w7, L, ms, rfl, g', eD, ef, eL, einv, ems, es⟩ := q
        have hi' : i < o1.length := by simpa using hi
        refine ⟨_, rfl, D, _, rfl, .inl (SqL.of eD), _, _, rfl, rfl, _, rfl, _, _, rfl, rfl, _, rfl, by omega, by rw [List.length_map]; omega, ?_⟩
        rw [List.length_map, eL, show ((o1.length : Int) - 1 - (0 + (i : Nat))).toNat = o1.length - 1 - i by omega]
        refine for_range (fun j σ H2 => ∃ w3 L ms, σ = [some (.ref p1), some (.ref p2), some (.ref S), w3, w4, some (.ref D), some (.ref fl), some (.int (0 + (i : Nat)))] ∧ Same H H2 ∧ H2 D = some (.lst ((L : List Int).map V.int)) ∧ H2 fl = some (.lst ((ms : List Int).map V.int)) ∧ L.length = o1.length ∧ inv L + ms.length = inv L0 ∧ ms.length ≤ 60 * i + j ∧
            (∀ a b, a < b → b < o1.length → o1.length ≤ b + i → L.getD a 0 ≤ L.getD b 0) ∧ ∀ a, a ≤ j → L.getD a 0 ≤ L.getD j 0)
          ⟨_, L, ms, rfl, g', eD, ef, eL, einv, ems, es, fun a ha => by rw [show a = 0 by omega]; exact Int.le_refl _⟩ (fun j σ H2 hj q => ?_) (fun σ H2 q => ?_)
        · obtain ⟨w3, L, ms, rfl, g', eD, ef, eL, einv, ems, es, em⟩ := q
          have hjl : j + 1 < L.length := by omega
          have gx := getD_of (as := L) (j := j) (by omega)
          have gy := getD_of (as := L) (j := j + 1) hjl
          have hx := atI_nat (xs := L.map V.int) (j := j) (v := .int (L.getD j 0)) (by rw [List.getElem?_map, gx]; rfl)
          have hy := atI_nat (xs := L.map V.int) (j := j + 1) (v := .int (L.getD (j + 1) 0)) (by rw [List.getElem?_map, gy]; rfl)
          have e0 : (0 : Int) + (j : Nat) = (j : Int) := Int.zero_add _
          rw [← e0] at hx
          rw [show ((j + 1 : Nat) : Int) = 0 + (j : Nat) + 1 by omega] at hy
          have hsq := SqL.of (K := W.K) eD
          refine ⟨_, rfl, _, rfl, D, _, _, _, rfl, rfl, hsq, hx, _, rfl, _, rfl, _, _, rfl, rfl, D, _, _, _, rfl, rfl, hsq, hy, _, _, rfl, rfl, _, rfl, ite2 (fun c => ?_) (fun c => ?_)⟩
          · have hlt : L.getD (j + 1) 0 < L.getD j 0 := of_decide_eq_true c
            refine ⟨_, rfl, _, rfl, _, _, rfl, rfl, D, _, _, _, rfl, rfl, hsq, hy, _, rfl, _, rfl, D, _, _, _, rfl, rfl, hsq, hx, by show 2 ≤ sizeLine; decide, fun t ht => ?_⟩
            have n1 := same_new ht (.tup [.int (L.getD (j + 1) 0), .int (L.getD j 0)])
            refine ⟨t, _, rfl, SqT.of upd_same, rfl, _, _, rfl, _, rfl, _, rfl, D, _, _, j, rfl, rfl, n1 _ _ eD, by rw [e0]; exact ixN_of (by rw [List.length_map]; omega), ?_⟩
            refine ⟨_, _, rfl, _, rfl, _, rfl, _, _, rfl, rfl, D, _, _, j + 1, rfl, rfl, upd_same, by rw [show (0 : Int) + (j : Nat) + 1 = ((j + 1 : Nat) : Int) by omega]; exact ixN_of (by rw [List.length_set, List.length_map]; omega), rfl, ?_⟩
            obtain ⟨pa, pb, eLL, epl⟩ := two_at L j _ _ gx gy
            obtain ⟨x, hxd⟩ : ∃ x, L.getD j 0 = x := ⟨_, rfl⟩
            obtain ⟨y, hyd⟩ : ∃ y, L.getD (j + 1) 0 = y := ⟨_, rfl⟩
            rw [hxd, hyd] at eLL hlt n1
            rw [hxd, hyd]
            have eset : (((L.map V.int).set j (.int y)).set (j + 1) (.int x)) = ((L.set j y).set (j + 1) x).map V.int := by rw [List.map_set, List.map_set]
            have eL2 : (L.set j y).set (j + 1) x = pa ++ y :: x :: pb := by rw [eLL, ← epl]; exact swap_at pa x y pb
            rw [upd_upd, eset, eL2]
            have hD2 : upd (upd H2 t (.tup [.int y, .int x])) D (.lst ((pa ++ y :: x :: pb).map V.int)) D = _ := upd_same
            have hf2 : upd (upd H2 t (.tup [.int y, .int x])) D (.lst ((pa ++ y :: x :: pb).map V.int)) fl = _ := (upd_ne hDf.symm).trans (n1 _ _ ef)
            have gg := (g'.trans n1).mutS (o := .lst ((pa ++ y :: x :: pb).map V.int)) D0
            generalize upd (upd H2 t (.tup [.int y, .int x])) D (.lst ((pa ++ y :: x :: pb).map V.int)) = H3 at hD2 hf2 gg
            refine ⟨_, rfl, .inl ⟨rfl, _, SqL.of hf2⟩, _, rfl, fl, _, _, rfl, rfl, hf2, sz_lt ?_, _, pa ++ y :: x :: pb, ms ++ [(0 : Int) + (j : Nat)], rfl, gg.mutS fl0, (upd_ne hDf).trans hD2, by rw [upd_same, List.map_append]; rfl, ?_, ?_, ?_, ?_, ?_⟩
            · rw [List.length_map]
              omega
            · rw [← eL, eLL]; simp
            · rw [← einv, eLL, inv_swap pa x y pb hlt, List.length_append]
              show _ + (ms.length + 1) = _
              omega
            · rw [List.length_append]
              show ms.length + 1 ≤ _
              omega
            · intro a b h1 h2 h3
              have q1 := es a b h1 h2 h3
              have q2 := es j b (by omega) h2 h3
              have q3 := es (j + 1) b (by omega) h2 h3
              rw [getD_swap pa x y pb a, getD_swap pa x y pb b, ← eLL, epl, if_neg (show ¬ b = j by omega), if_neg (show ¬ b = j + 1 by omega)]
              rw [hxd] at q2
              rw [hyd] at q3
              by_cases c1 : a = j
              · rw [if_pos c1]; exact q3
              · rw [if_neg c1]
                by_cases c2 : a = j + 1
                · rw [if_pos c2]; exact q2
                · rw [if_neg c2]; exact q1
            · intro a ha
              rw [getD_swap pa x y pb a, getD_swap pa x y pb (j + 1), ← eLL, epl, if_neg (show ¬ j + 1 = j by omega), if_pos rfl]
              by_cases c1 : a = j
              · rw [if_pos c1]; omega
              · rw [if_neg c1]
                by_cases c2 : a = j + 1
                · rw [if_pos c2]; exact Int.le_refl _
                · rw [if_neg c2]
                  have := em a (by omega)
                  rwa [hxd] at this
          · have hge : ¬ L.getD (j + 1) 0 < L.getD j 0 := of_decide_eq_false (Bool.eq_false_iff.mpr c)
            refine ⟨_, L, ms, rfl, g', eD, ef, eL, einv, by omega, es, fun a ha => ?_⟩
            by_cases c2 : a = j + 1
            · rw [c2]; exact Int.le_refl _
            · have := em a (by omega)
              omega
        · obtain ⟨w3, L, ms, rfl, g', eD, ef, eL, einv, ems, es, em⟩ := q
          refine ⟨_, _, _, L, ms, rfl, g', eD, ef, eL, einv, by omega, fun a b h1 h2 h3 => ?_⟩
          by_cases c : o1.length ≤ b + i
          · exact es a b h1 h2 c
          · rw [show b = o1.length - 1 - i by omega] at h1 ⊢
            exact em a (by omega)
      · obtain ⟨w3, w4, w7, L, ms, rfl, g', eD, ef, eL, einv, ems, es⟩ := q
        have hsorted : L.Pairwise (· ≤ ·) := by
          rw [List.pairwise_iff_getElem]
          intro a b ha hb hab
          have := es a b hab (by omega) (by simp)
          rwa [List.getD_eq_getElem?_getD, List.getD_eq_getElem?_getD, List.getElem?_eq_getElem ha, List.getElem?_eq_getElem hb] at this
        rw [inv_sorted L hsorted, Nat.zero_add] at einv
        refine ⟨_, rfl, fl, _, rfl, .inl ⟨SqL.of ef, fun q hq => k q ms _ (g'.trans (same_new hq _)) upd_same (by rw [einv, hpairs])⟩⟩
theorem ok_exchange_row : Cal W 65 "exchange_row" ["word", "book", "one", "other"] (spExchangeRow W.K) := by
  refine cal_mk (d := d_exchange_row) Z.g_exchange_row Z.d_exchange_row sc_exchange_row bd_exchange_row (fun vs H Q E h => ?_) fun f cdv A outer s H vs Q E hr h => ?_
  · obtain ⟨_, _, _, _, _, _, _, _, _, _, _, rfl, _⟩ := h; rfl
  obtain ⟨z, bp, p1, p2, xs, rs, o1, o2, st, c1, c2, rfl, hz, hg, hb, h1, h2, r1, r2, hsub, k⟩ := h
  refine ⟨_, pss_cons (ps_asg (pe_cal (ok_two_forests Z) (hr.mono (by decide)) (pa_cons (pv 0) (pa_cons (pv 1) (pa_cons (pv 2) (pa_cons (pv 3) pa_nil))))) (pg_tup rfl (pgs_cons (pg_name (i := 4) sc_exchange_row.nd rfl (Or.inl rfl)) (pgs_cons (pg_name (i := 5) sc_exchange_row.nd rfl (Or.inl rfl)) pgs_nil))))
      (pss_one (ps_ret (pe_ifExp (pt_cmpR (k_op_eqD W.K hr.units) (pv 4) (pv 5) (nomark _)) (pe_cal (ok_exchanged Z) (hr.mono (by decide)) (pa_cons (pv 2) (pa_cons (pv 3) pa_nil))) pe_non))), ?_⟩
  have hst : st.length ≤ 120 := by
    have := runTo_sub r1.run
    rw [upTo_len] at this
    exact Nat.le_trans this hz.len
  refine ⟨_, rfl, _, rfl, _, rfl, _, rfl, z, bp, p1, p2, xs, rs, o1, o2, st, c1, c2, rfl, hz, hg, hb, h1, h2, r1, r2, hst, fun q l1 l2 us1 us2 H1 g1 hq hl1 hl2 t1 t2 => ?_⟩
  refine ⟨q, _, rfl, SqT.of hq, rfl, _, _, rfl, _, _, rfl, rfl, ?_⟩
  have s1 := forest_small (n := (z.cps.size : Int)) (st := st) (Nat.le_trans r1.len (by decide : 59 ≤ 60))
  have s2 := forest_small (n := (z.cps.size : Int)) (st := st) (Nat.le_trans r2.len (by decide : 59 ≤ 60))
  refine ⟨_, rfl, _, rfl, .list (pTrees (forest (z.cps.size : Int) o1 st)), .list (pTrees (forest (z.cps.size : Int) o2 st)), .lst (SqL.of hl1) t1.dp, .lst (SqL.of hl2) t2.dp, shaped_trees s1, shaped_trees s2, _, rfl, ?_⟩
  have e : PyData.eqv (.list (pTrees (forest (z.cps.size : Int) o1 st))) (.list (pTrees (forest (z.cps.size : Int) o2 st))) = decide (forest (z.cps.size : Int) o1 st = forest (z.cps.size : Int) o2 st) := by simp only [PyData.eqv]; exact pTrees_eqv _ _
  rw [e]
  by_cases c : forest (z.cps.size : Int) o1 st = forest (z.cps.size : Int) o2 st
  · rw [decide_eq_true c]
    refine iteT ⟨_, rfl, _, rfl, p1, p2, o1, o2, rfl, g1.tS h1, g1.tS h2, r2.nd, hsub, r1.len, r2.len, fun q2 ms H2 g2 hq2 hms => ?_⟩
    exact k _ H2 (g1.trans g2) (by rw [if_pos c]; exact ⟨q2, ms, rfl, hq2, hms⟩)
  · rw [decide_eq_false c]
    exact iteF (k _ H1 g1 (by rw [if_neg c]))
theorem ok_far_apart : Cal W 66 "far_apart" ["word", "book", "one", "other"] (spFarApart W.K) := by
  refine cal_mk (d := d_far_apart) Z.g_far_apart Z.d_far_apart sc_far_apart bd_far_apart (fun vs H Q E h => ?_) fun f cdv A outer s H vs Q E hr h => ?_
  · obtain ⟨_, _, _, _, _, _, _, _, _, _, _, rfl, _⟩ := h; rfl
  obtain ⟨z, bp, p1, p2, xs, rs, o1, o2, st, c1, c2, rfl, hz, hg, hb, h1, h2, r1, r2, hsub, k⟩ := h
  refine ⟨_, pss_cons (ps_set (i := 4) sc_far_apart.nd rfl (Or.inl rfl) (pe_cal (ok_exchange_row Z) (hr.mono (by decide)) (pa_cons (pv 0) (pa_cons (pv 1) (pa_cons (pv 2) (pa_cons (pv 3) pa_nil))))))
      (pss_one (ps_ret (pe_ifExp (pt_cmpR op_isN (pv 4) pe_non (nomark _)) pe_non (pe_callB (k_len_seq W.K) (by rfl) Z.m_len (by decide +kernel) (pa_cons (pv 4) pa_nil))))), ?_⟩
  refine ⟨_, rfl, _, rfl, _, rfl, _, rfl, z, bp, p1, p2, xs, rs, o1, o2, st, c1, c2, rfl, hz, hg, hb, h1, h2, r1, r2, hsub, fun v H1 g1 hv => ?_⟩
  by_cases c : forest (z.cps.size : Int) o1 st = forest (z.cps.size : Int) o2 st
  · rw [if_pos c] at hv
    obtain ⟨q, ms, rfl, hq, hms⟩ := hv
    refine ⟨_, rfl, rfl, _, rfl, iteF ⟨_, rfl, q, _, rfl, .inr (SqT.of hq), ?_⟩⟩
    have := k H1 g1
    rw [if_pos c] at this
    rw [List.length_map, hms]
    exact this
  · rw [if_neg c] at hv
    subst hv
    refine ⟨_, rfl, rfl, _, rfl, iteT ?_⟩
    have := k H1 g1
    rw [if_neg c] at this
    exact this
end
end Sl
/-! SlMath5 -/
namespace Sl
/-! ### costs of trees; a run is the sum over the gaps -/
def addO : Option Int → Option Int → Option Int
  | some a, some b => some (a + b)
  | _, _ => none
theorem addO_comm (a b : Option Int) : addO a b = addO b a := by
  cases a <;> cases b <;> simp [addO, Int.add_comm]
theorem addO_assoc (a b c : Option Int) : addO (addO a b) c = addO a (addO b c) := by
  cases a <;> cases b <;> cases c <;> simp [addO, Int.add_assoc]
instance : Std.Commutative addO := ⟨addO_comm⟩
instance : Std.Associative addO := ⟨addO_assoc⟩
theorem addO_zero (a : Option Int) : addO a (some 0) = a := by cases a <;> simp [addO]
theorem zero_addO (a : Option Int) : addO (some 0) a = a := by cases a <;> simp [addO]
def sumO : List (Option Int) → Option Int
  | [] => some 0
  | a :: r => addO a (sumO r)
theorem sumO_append : ∀ a b : List (Option Int), sumO (a ++ b) = addO (sumO a) (sumO b)
  | [], b => (zero_addO _).symm
  | x :: a, b => by
    show addO x (sumO (a ++ b)) = addO (addO x (sumO a)) (sumO b)
    rw [sumO_append a b, addO_assoc]
section
variable (pr : Pr)
def costT : Tree → Int → Int → Option Int
  | .nil, _, _ => some 0
  | .node x l r, p, q => addO (pr p x q) (addO (costT l p x) (costT r x q))
def costG (o : List Int) (g : Int × Int) : Option Int := costT pr (tr (part o g.1 g.2)) g.1 g.2
def total (n : Int) (o st : List Int) : Option Int := sumO ((gapsOf n st).map (costG pr o))
end
/-- what an order leaves -/
def compl (n : Nat) (o : List Int) : List Int := (upTo n).filter fun y => decide (y ∉ o)
theorem upTo_lt (n : Nat) : (upTo n).Pairwise (· < ·) := by
  unfold upTo
  rw [List.pairwise_map]
  exact List.pairwise_lt_range.imp fun h => by omega
theorem compl_lt (n : Nat) (o : List Int) : (compl n o).Pairwise (· < ·) := (upTo_lt n).filter _
theorem mem_compl {n : Nat} {o : List Int} {x : Int} : x ∈ compl n o ↔ (0 ≤ x ∧ x < n) ∧ x ∉ o := by
  unfold compl
  rw [List.mem_filter, mem_upTo, decide_eq_true_eq]
theorem compl_nil (n : Nat) : compl n [] = upTo n := by
  unfold compl
  rw [List.filter_eq_self]
  intro x _
  simp
theorem lt_nodup {l : List Int} (h : l.Pairwise (· < ·)) : l.Nodup := h.imp fun h => by omega
theorem compl_snoc {n : Nat} {o : List Int} {x : Int} : compl n (o ++ [x]) = (compl n o).erase x := by
  rw [(lt_nodup (compl_lt n o)).erase_eq_filter]
  unfold compl
  rw [List.filter_filter]
  refine List.filter_congr fun y _ => ?_
  by_cases c : y = x <;> by_cases d : y ∈ o <;> simp [c, d]
theorem runTo_snoc {pr : Pr} {n : Int} (x : Int) : ∀ (o st : List Int), runTo pr n st (o ++ [x]) = match runTo pr n st o with
    | none => none
    | some (st', c) => if x ∈ st' then (match pr (sides n (-1) st' x).1 x (sides n (-1) st' x).2 with | none => none | some c1 => some (st'.erase x, c + c1)) else none
  | [], st => by
    show runTo pr n st [x] = _
    unfold runTo
    by_cases h : x ∈ st
    · simp only [if_pos h]
      cases pr (sides n (-1) st x).1 x (sides n (-1) st x).2 with
      | none => rfl
      | some c1 =>
        show (some (st.erase x, (0 : Int))).map (fun r => (r.1, c1 + r.2)) = some (st.erase x, 0 + c1)
        rw [Int.zero_add, Option.map_some, Int.add_zero]
    · simp only [if_neg h]
  | y :: o, st => by
    rw [List.cons_append]
    unfold runTo
    by_cases h : y ∈ st
    · simp only [if_pos h]
      cases pr (sides n (-1) st y).1 y (sides n (-1) st y).2 with
      | none => rfl
      | some c1 =>
        simp only [runTo_snoc x o (st.erase y)]
        cases runTo pr n (st.erase y) o with
        | none => rfl
        | some r =>
          obtain ⟨s1, c⟩ := r
          simp only [Option.map_some]
          by_cases h2 : x ∈ s1
          · simp only [if_pos h2]
            cases pr (sides n (-1) s1 x).1 x (sides n (-1) s1 x).2 with
            | none => rfl
            | some c2 => simp only [Option.map_some, Int.add_assoc]
          · simp only [if_neg h2, Option.map_none]
    · simp only [if_neg h]
/-! ### consecutive ones -/
def pairsOf (l : List Int) : List (Int × Int) := l.zip l.tail
theorem pairsOf_cons (a b : Int) (r : List Int) : pairsOf (a :: b :: r) = (a, b) :: pairsOf (b :: r) := rfl
theorem pairsOf_app : ∀ (u : List Int) (p : Int) (v : List Int), pairsOf (u ++ p :: v) = pairsOf (u ++ [p]) ++ pairsOf (p :: v)
  | [], p, v => by
    show pairsOf (p :: v) = pairsOf [p] ++ pairsOf (p :: v)
    rfl
  | [a], p, v => rfl
  | a :: b :: u, p, v => by
    show pairsOf (a :: b :: (u ++ p :: v)) = pairsOf (a :: b :: (u ++ [p])) ++ _
    rw [pairsOf_cons, pairsOf_cons, List.cons_append]
    congr 1
    exact pairsOf_app (b :: u) p v
theorem pairsOf_mem {l : List Int} {g : Int × Int} (h : g ∈ pairsOf l) : g.1 ∈ l ∧ g.2 ∈ l := by
  obtain ⟨h1, h2⟩ := List.of_mem_zip h
  exact ⟨h1, List.mem_of_mem_tail h2⟩
def lastD (p : Int) : List Int → Int
  | [] => p
  | y :: s => lastD y s
theorem lastD_split : ∀ (p : Int) (s : List Int), ∃ u, p :: s = u ++ [lastD p s] ∧ ∀ x ∈ u, x ∈ p :: s
  | p, [] => ⟨[], rfl, by simp⟩
  | p, y :: s => by
    obtain ⟨u, h1, h2⟩ := lastD_split y s
    refine ⟨p :: u, congrArg (List.cons p) h1, fun x hx => ?_⟩
    rcases List.mem_cons.mp hx with e | e
    · rw [e]; exact List.mem_cons_self
    · exact List.mem_cons_of_mem _ (h2 x e)
theorem lastD_mem (p : Int) (s : List Int) : lastD p s ∈ p :: s := by
  obtain ⟨u, h1, _⟩ := lastD_split p s
  rw [h1]
  simp
theorem sides_split (n : Int) (x : Int) (s2 : List Int) : ∀ (s1 : List Int) (p : Int), x ∉ s1 → sides n p (s1 ++ x :: s2) x = (lastD p s1, s2.headD n)
  | [], p, _ => by
    show sides n p (x :: s2) x = _
    unfold sides
    rw [if_pos rfl]
    rfl
  | y :: s1, p, h => by
    have h1 : y ≠ x := fun e => h (by rw [e]; exact List.mem_cons_self)
    show sides n p (y :: (s1 ++ x :: s2)) x = _
    unfold sides
    rw [if_neg h1, sides_split n x s2 s1 y fun m => h (List.mem_cons_of_mem _ m)]
    rfl
theorem part_out {o : List Int} {x l h : Int} (c : ¬ (l < x ∧ x < h)) : part (o ++ [x]) l h = part o l h := by
  unfold part
  rw [List.filter_append]
  have : [x].filter (fun y => decide (l < y) && decide (y < h)) = [] := by
    rw [List.filter_eq_nil_iff]
    intro y hy
    simp at hy
    subst hy
    simp
    omega
  rw [this, List.append_nil]
theorem part_in {o : List Int} {x l h : Int} (c : l < x ∧ x < h) : part (o ++ [x]) l h = part o l h ++ [x] := by
  unfold part
  rw [List.filter_append]
  congr 1
  simp [c.1, c.2]
theorem part_lt {o : List Int} {x l h : Int} (c : x < h) : (part o l h).filter (fun y => decide (y < x)) = part o l x := by
  unfold part
  rw [List.filter_filter]
  refine List.filter_congr fun y _ => ?_
  rw [Bool.eq_iff_iff]
  simp only [Bool.and_eq_true, decide_eq_true_eq]
  constructor
  · rintro ⟨h1, h2, h3⟩; exact ⟨h2, h1⟩
  · rintro ⟨h1, h2⟩; exact ⟨h2, h1, by omega⟩
theorem part_gt {o : List Int} {x l h : Int} (c : l < x) : (part o l h).filter (fun y => decide (x < y)) = part o x h := by
  unfold part
  rw [List.filter_filter]
  refine List.filter_congr fun y _ => ?_
  rw [Bool.eq_iff_iff]
  simp only [Bool.and_eq_true, decide_eq_true_eq]
  constructor
  · rintro ⟨h1, h2, h3⟩; exact ⟨h1, h3⟩
  · rintro ⟨h1, h2⟩; exact ⟨h1, by omega, h2⟩
theorem gapsOf_eq (n : Int) (st : List Int) : gapsOf n st = pairsOf (ends n st) := rfl
theorem part_nil (l h : Int) : part [] l h = [] := rfl
theorem total_nil {pr : Pr} {n : Int} (st : List Int) : total pr n [] st = some 0 := by
  unfold total
  have : ∀ gs : List (Int × Int), sumO (gs.map (costG pr [])) = some 0 := fun gs => by
    induction gs with
    | nil => rfl
    | cons g r ih =>
      show addO (costT pr (tr []) g.1 g.2) _ = _
      rw [ih]
      rfl
  exact this _
/-- one more strike -/
theorem total_snoc {pr : Pr} {n x : Int} {o s1 s2 : List Int} (h1 : ∀ y ∈ s1, y < x) (h2 : ∀ y ∈ s2, x < y) (h0 : -1 < x) (hn : x < n) :
    total pr n (o ++ [x]) (s1 ++ s2) = addO (total pr n o (s1 ++ x :: s2)) (pr (lastD (-1) s1) x (s2.headD n)) := by
  obtain ⟨u, e1, e2⟩ := lastD_split (-1) s1
  obtain ⟨v, e3⟩ : ∃ v, s2 ++ [n] = s2.headD n :: v := by
    cases s2 with
    | nil => exact ⟨[], rfl⟩
    | cons a r => exact ⟨r ++ [n], rfl⟩
  have hp : lastD (-1) s1 < x := by
    rcases List.mem_cons.mp (lastD_mem (-1) s1) with e | e
    · omega
    · exact h1 _ e
  have hq : x < s2.headD n := by
    cases s2 with
    | nil => exact hn
    | cons a r => exact h2 a List.mem_cons_self
  have E1 : ends n (s1 ++ x :: s2) = u ++ lastD (-1) s1 :: x :: s2.headD n :: v := by
    show -1 :: (s1 ++ x :: s2) ++ [n] = _
    rw [show -1 :: (s1 ++ x :: s2) ++ [n] = (-1 :: s1) ++ x :: (s2 ++ [n]) by simp, e1, e3]
    simp
  have E2 : ends n (s1 ++ s2) = u ++ lastD (-1) s1 :: s2.headD n :: v := by
    show -1 :: (s1 ++ s2) ++ [n] = _
    rw [show -1 :: (s1 ++ s2) ++ [n] = (-1 :: s1) ++ (s2 ++ [n]) by simp, e1, e3]
    simp
  have A : (pairsOf (u ++ [lastD (-1) s1])).map (costG pr (o ++ [x])) = (pairsOf (u ++ [lastD (-1) s1])).map (costG pr o) := by
    refine List.map_congr_left fun g hg => ?_
    have := (pairsOf_mem hg).2
    rw [← e1] at this
    unfold costG
    rw [part_out]
    rcases List.mem_cons.mp this with e | e
    · omega
    · have := h1 _ e; omega
  have B : (pairsOf (s2.headD n :: v)).map (costG pr (o ++ [x])) = (pairsOf (s2.headD n :: v)).map (costG pr o) := by
    refine List.map_congr_left fun g hg => ?_
    have := (pairsOf_mem hg).1
    rw [← e3] at this
    unfold costG
    rw [part_out]
    rcases List.mem_append.mp this with e | e
    · have := h2 _ e; omega
    · simp at e; omega
  have C : costG pr (o ++ [x]) (lastD (-1) s1, s2.headD n) = addO (pr (lastD (-1) s1) x (s2.headD n)) (addO (costG pr o (lastD (-1) s1, x)) (costG pr o (x, s2.headD n))) := by
    unfold costG
    show costT pr (tr (part (o ++ [x]) (lastD (-1) s1) (s2.headD n))) _ _ = _
    rw [part_in ⟨hp, hq⟩, tr_snoc, part_lt hq, part_gt hp]
    rfl
  unfold total
  rw [gapsOf_eq, gapsOf_eq, E1, E2, pairsOf_app u _ (x :: s2.headD n :: v), pairsOf_app u _ (s2.headD n :: v), pairsOf_cons, pairsOf_cons, pairsOf_cons, List.map_append, List.map_append, List.map_cons, List.map_cons, List.map_cons, A, B, C, sumO_append, sumO_append]
  show addO _ (addO _ _) = addO (addO _ (addO _ (addO _ _))) _
  ac_rfl
theorem run_total (pr : Pr) (n : Nat) (o : List Int) : o.Nodup → (∀ x ∈ o, 0 ≤ x ∧ x < (n : Int)) → runTo pr (n : Int) (upTo n) o = (total pr (n : Int) o (compl n o)).map fun c => (compl n o, c) := by
  refine snocInd (P := fun o => o.Nodup → (∀ x ∈ o, 0 ≤ x ∧ x < (n : Int)) → runTo pr (n : Int) (upTo n) o = (total pr (n : Int) o (compl n o)).map fun c => (compl n o, c)) (fun _ _ => ?_) (fun o x ih hnd hr => ?_) o
  · rw [total_nil, compl_nil]
    rfl
  · obtain ⟨hn1, hn2, hn3⟩ := List.nodup_append.mp hnd
    have hx : x ∉ o := fun m => hn3 x m x (by simp) rfl
    have hxr := hr x (by simp)
    have hxc : x ∈ compl n o := mem_compl.mpr ⟨hxr, hx⟩
    rw [runTo_snoc, ih o (Nat.le_refl _) hn1 fun y hy => hr y (by simp [hy])]
    obtain ⟨s1, s2, hs⟩ := List.append_of_mem hxc
    have hlt := compl_lt n o
    rw [hs] at hlt
    obtain ⟨p1, p2, p3⟩ := List.pairwise_append.mp hlt
    obtain ⟨p4, p5⟩ := List.pairwise_cons.mp p2
    have hs1 : ∀ y ∈ s1, y < x := fun y hy => p3 y hy x List.mem_cons_self
    have hx1 : x ∉ s1 := fun m => by have := hs1 x m; omega
    have her : (s1 ++ x :: s2).erase x = s1 ++ s2 := by
      rw [List.erase_append_right _ hx1, List.erase_cons_head]
    rw [compl_snoc, hs, her, total_snoc hs1 p4 (by omega) hxr.2]
    cases total pr (n : Int) o (s1 ++ x :: s2) with
    | none => rfl
    | some c =>
      simp only [Option.map_some]
      rw [if_pos (by simp), sides_split _ _ _ _ _ hx1]
      show (match pr (lastD (-1) s1) x (s2.headD (n : Int)) with | none => none | some c1 => some ((s1 ++ x :: s2).erase x, c + c1)) = _
      cases pr (lastD (-1) s1) x (s2.headD (n : Int)) with
      | none => rfl
      | some c1 => rw [her]; rfl
end Sl
/-! SlMath6 -/
namespace Sl
/-! ### gaps -/
theorem pairsOf_gap : ∀ {l : List Int}, l.Pairwise (· < ·) → ∀ {g : Int × Int}, g ∈ pairsOf l → g.1 < g.2 ∧ ∀ y ∈ l, ¬ (g.1 < y ∧ y < g.2)
  | [], _, _, h => by cases h
  | [_], _, _, h => by cases h
  | a :: b :: r, hl, g, h => by
    obtain ⟨h1, h2⟩ := List.pairwise_cons.mp hl
    rw [pairsOf_cons] at h
    rcases List.mem_cons.mp h with e | e
    · subst e
      refine ⟨h1 b List.mem_cons_self, fun y hy => ?_⟩
      show ¬ (a < y ∧ y < b)
      rcases List.mem_cons.mp hy with e | e
      · omega
      · rcases List.mem_cons.mp e with e | e
        · omega
        · have := (List.pairwise_cons.mp h2).1 y e; omega
    · obtain ⟨q1, q2⟩ := pairsOf_gap h2 e
      refine ⟨q1, fun y hy => ?_⟩
      rcases List.mem_cons.mp hy with e' | e'
      · have := h1 g.1 (pairsOf_mem e).1; omega
      · exact q2 y e'
theorem pairsOf_cover : ∀ {l : List Int} {a x b : Int}, l.Pairwise (· < ·) → a ∈ l → b ∈ l → a < x → x < b → x ∉ l → ∃ g ∈ pairsOf l, g.1 < x ∧ x < g.2
  | [], _, _, _, _, h, _, _, _, _ => by cases h
  | [c], a, x, b, _, h1, h2, h3, h4, _ => by simp at h1 h2; omega
  | c :: d :: r, a, x, b, hl, h1, h2, h3, h4, h5 => by
    obtain ⟨p1, p2⟩ := List.pairwise_cons.mp hl
    have hc : c ≤ a := by
      rcases List.mem_cons.mp h1 with e | e
      · omega
      · have := p1 a e; omega
    by_cases q : x < d
    · exact ⟨(c, d), by rw [pairsOf_cons]; exact List.mem_cons_self, by show c < x; omega, q⟩
    · have hdx : d < x := by
        have : d ≠ x := fun e => h5 (by rw [← e]; simp)
        omega
      have hb : b ∈ d :: r := by
        rcases List.mem_cons.mp h2 with e | e
        · have := p1 d List.mem_cons_self; omega
        · exact e
      obtain ⟨g, g1, g2⟩ := pairsOf_cover p2 List.mem_cons_self hb hdx h4 fun m => h5 (List.mem_cons_of_mem _ m)
      exact ⟨g, by rw [pairsOf_cons]; exact List.mem_cons_of_mem _ g1, g2⟩
theorem pairsOf_nodup : ∀ {l : List Int}, l.Pairwise (· < ·) → (pairsOf l).Nodup
  | [], _ => .nil
  | [_], _ => .nil
  | a :: b :: r, hl => by
    obtain ⟨p1, p2⟩ := List.pairwise_cons.mp hl
    rw [pairsOf_cons]
    refine List.nodup_cons.mpr ⟨fun m => ?_, pairsOf_nodup p2⟩
    have := p1 _ (pairsOf_mem m).1
    omega
theorem ends_lt (n : Nat) (o : List Int) : (ends (n : Int) (compl n o)).Pairwise (· < ·) := by
  unfold ends
  rw [List.pairwise_append, List.pairwise_append]
  refine ⟨⟨by simp, compl_lt n o, fun a ha b hb => ?_⟩, by simp, fun a ha b hb => ?_⟩
  · simp at ha
    have := (mem_compl.mp hb).1
    omega
  · simp at hb
    rcases List.mem_append.mp ha with e | e
    · simp at e; omega
    · have := (mem_compl.mp e).1; omega
theorem gap_ok {n : Nat} {o : List Int} {g : Int × Int} (h : g ∈ gapsOf (n : Int) (compl n o)) : g.1 < g.2 ∧ -1 ≤ g.1 ∧ g.2 ≤ (n : Int) ∧ ∀ y, g.1 < y → y < g.2 → y ∈ o := by
  rw [gapsOf_eq] at h
  obtain ⟨h1, h2⟩ := pairsOf_gap (ends_lt n o) h
  obtain ⟨h3, h4⟩ := pairsOf_mem h
  have hb : ∀ y ∈ ends (n : Int) (compl n o), -1 ≤ y ∧ y ≤ (n : Int) := fun y hy => by
    unfold ends at hy
    rcases List.mem_append.mp hy with e | e
    · rcases List.mem_append.mp e with e | e
      · simp at e; omega
      · have := (mem_compl.mp e).1; omega
    · simp at e; omega
  refine ⟨h1, (hb _ h3).1, (hb _ h4).2, fun y hy1 hy2 => ?_⟩
  by_cases c : y ∈ o
  · exact c
  · exfalso
    refine h2 y ?_ ⟨hy1, hy2⟩
    have b1 := (hb _ h3).1
    have b2 := (hb _ h4).2
    unfold ends
    have : y ∈ compl n o := mem_compl.mpr ⟨by omega, c⟩
    simp [this]
theorem gap_cover {n : Nat} {o : List Int} {x : Int} (h0 : 0 ≤ x) (h1 : x < (n : Int)) (hx : x ∈ o) : ∃ g ∈ gapsOf (n : Int) (compl n o), g.1 < x ∧ x < g.2 := by
  rw [gapsOf_eq]
  refine pairsOf_cover (a := -1) (b := (n : Int)) (ends_lt n o) (by simp [ends]) (by simp [ends]) (by omega) h1 fun m => ?_
  unfold ends at m
  rcases List.mem_append.mp m with e | e
  · rcases List.mem_append.mp e with e | e
    · simp at e; omega
    · exact (mem_compl.mp e).2 hx
  · simp at e; omega
theorem gap_apart {n : Nat} {o : List Int} {g g' : Int × Int} (h : g ∈ gapsOf (n : Int) (compl n o)) (h' : g' ∈ gapsOf (n : Int) (compl n o)) {y : Int} (a : g.1 < y ∧ y < g.2) (b : g'.1 < y ∧ y < g'.2) : g = g' := by
  rw [gapsOf_eq] at h h'
  obtain ⟨_, h2⟩ := pairsOf_gap (ends_lt n o) h
  obtain ⟨_, h2'⟩ := pairsOf_gap (ends_lt n o) h'
  have c1 := h2 g'.1 (pairsOf_mem h').1
  have c2 := h2 g'.2 (pairsOf_mem h').2
  have c3 := h2' g.1 (pairsOf_mem h).1
  have c4 := h2' g.2 (pairsOf_mem h).2
  exact Prod.ext (by omega) (by omega)
theorem mem_part {o : List Int} {l h y : Int} : y ∈ part o l h ↔ y ∈ o ∧ l < y ∧ y < h := by
  unfold part
  rw [List.mem_filter, Bool.and_eq_true, decide_eq_true_eq, decide_eq_true_eq]
theorem gap_part {n : Nat} {o : List Int} {g : Int × Int} (h : g ∈ gapsOf (n : Int) (compl n o)) (y : Int) : y ∈ part o g.1 g.2 ↔ g.1 < y ∧ y < g.2 := by
  rw [mem_part]
  exact ⟨fun q => q.2, fun q => ⟨(gap_ok h).2.2.2 y q.1 q.2, q⟩⟩
theorem compl_congr {n : Nat} {o w : List Int} (h : ∀ x, x ∈ w ↔ x ∈ o) : compl n w = compl n o := by
  unfold compl
  refine List.filter_congr fun y _ => ?_
  simp only [h y]
/-! ### costs and orders of a gap -/
theorem addO_some {a b : Option Int} : (addO a b).isSome = true ↔ a.isSome = true ∧ b.isSome = true := by cases a <;> cases b <;> simp [addO]
theorem sumO_some : ∀ {l : List (Option Int)}, (sumO l).isSome = true ↔ ∀ a ∈ l, a.isSome = true
  | [] => by simp [sumO]
  | a :: r => by
    show (addO a (sumO r)).isSome = true ↔ _
    rw [addO_some, sumO_some]
    simp
theorem cost_of_vord {pr : Pr} {p q : Int} {o : List Int} (h : Vord pr p q o) : (costT pr (tr o) p q).isSome = true := by
  induction h with
  | nil p => rfl
  | @snoc p q x o h1 h2 hp hn hl hr ihl ihr =>
    rw [tr_snoc]
    exact addO_some.mpr ⟨hp, addO_some.mpr ⟨ihl, ihr⟩⟩
theorem vord_of_cost {pr : Pr} (o : List Int) : ∀ p q : Int, p < q → o.Nodup → (∀ y, y ∈ o ↔ p < y ∧ y < q) → (costT pr (tr o) p q).isSome = true → Vord pr p q o := by
  refine snocInd (P := fun o => ∀ p q : Int, p < q → o.Nodup → (∀ y, y ∈ o ↔ p < y ∧ y < q) → (costT pr (tr o) p q).isSome = true → Vord pr p q o) (fun p q h1 _ h3 _ => ?_) (fun o x ih p q h1 h2 h3 h4 => ?_) o
  · have : q = p + 1 := by
      by_cases c : q = p + 1
      · exact c
      · have := (h3 (p + 1)).mpr (by omega); cases this
    subst this
    exact .nil p
  · obtain ⟨hn1, hn2, hn3⟩ := List.nodup_append.mp h2
    have hx : x ∉ o := fun m => hn3 x m x (by simp) rfl
    have hxr := (h3 x).mp (by simp)
    rw [tr_snoc] at h4
    obtain ⟨a, b⟩ := addO_some.mp h4
    obtain ⟨b1, b2⟩ := addO_some.mp b
    have hmem : ∀ y, y ∈ o ↔ (p < y ∧ y < q) ∧ y ≠ x := fun y => by
      rw [← h3 y, List.mem_append, List.mem_singleton]
      constructor
      · intro m; exact ⟨.inl m, fun e => hx (e ▸ m)⟩
      · rintro ⟨m | m, e⟩
        · exact m
        · exact absurd m e
    refine .snoc hxr.1 hxr.2 a hx (ih _ (List.length_filter_le _ _) p x hxr.1 (hn1.filter _) (fun y => ?_) b1) (ih _ (List.length_filter_le _ _) x q hxr.2 (hn1.filter _) (fun y => ?_) b2)
    · rw [List.mem_filter, hmem, decide_eq_true_eq]
      constructor
      · rintro ⟨⟨c1, c2⟩, c3⟩; exact ⟨c1.1, c3⟩
      · rintro ⟨c1, c2⟩; exact ⟨⟨⟨c1, by omega⟩, by omega⟩, c2⟩
    · rw [List.mem_filter, hmem, decide_eq_true_eq]
      constructor
      · rintro ⟨⟨c1, c2⟩, c3⟩; exact ⟨c3, c1.2⟩
      · rintro ⟨c1, c2⟩; exact ⟨⟨⟨by omega, c2⟩, by omega⟩, c1⟩
/-- a run: its standing, its gaps' orders -/
theorem run_gaps {pr : Pr} {n : Nat} {o st : List Int} {c : Int} (hnd : o.Nodup) (hr : ∀ x ∈ o, 0 ≤ x ∧ x < (n : Int)) (h : runTo pr (n : Int) (upTo n) o = some (st, c)) :
    st = compl n o ∧ total pr (n : Int) o st = some c ∧ ∀ g ∈ gapsOf (n : Int) st, Vord pr g.1 g.2 (part o g.1 g.2) := by
  rw [run_total pr n o hnd hr] at h
  cases ht : total pr (n : Int) o (compl n o) with
  | none => rw [ht] at h; cases h
  | some c' =>
    rw [ht] at h
    have e : some (compl n o, c') = some (st, c) := h
    have e1 : compl n o = st := congrArg Prod.fst (Option.some.inj e)
    have e2 : c' = c := congrArg Prod.snd (Option.some.inj e)
    subst e1
    subst e2
    refine ⟨rfl, ht, fun g hg => ?_⟩
    obtain ⟨h1, _⟩ := gap_ok hg
    refine vord_of_cost _ _ _ h1 (hnd.filter _) (gap_part hg) ?_
    have hs : (sumO ((gapsOf (n : Int) (compl n o)).map (costG pr o))).isSome = true := by
      have : sumO ((gapsOf (n : Int) (compl n o)).map (costG pr o)) = some c' := ht
      rw [this]
      rfl
    exact sumO_some.mp hs _ (List.mem_map.mpr ⟨g, hg, rfl⟩)
/-- gaps' orders make a run -/
theorem gaps_run {pr : Pr} {n : Nat} {w o : List Int} (hnd : w.Nodup) (hr : ∀ x ∈ w, 0 ≤ x ∧ x < (n : Int)) (hm : ∀ x, x ∈ w ↔ x ∈ o) (h : ∀ g ∈ gapsOf (n : Int) (compl n o), Vord pr g.1 g.2 (part w g.1 g.2)) :
    ∃ c, runTo pr (n : Int) (upTo n) w = some (compl n o, c) := by
  rw [run_total pr n w hnd hr, compl_congr hm]
  have hs : (total pr (n : Int) w (compl n o)).isSome = true := by
    refine sumO_some.mpr fun a ha => ?_
    obtain ⟨g, hg, rfl⟩ := List.mem_map.mp ha
    exact cost_of_vord (h g hg)
  obtain ⟨c, hc⟩ := Option.isSome_iff_exists.mp hs
  exact ⟨c, by rw [hc]; rfl⟩
/-- alike trees: alike run -/
theorem same_run {pr : Pr} {n : Nat} {w o : List Int} (hnd : w.Nodup) (hnd' : o.Nodup) (hr : ∀ x ∈ o, 0 ≤ x ∧ x < (n : Int)) (hm : ∀ x, x ∈ w ↔ x ∈ o) (h : ∀ g ∈ gapsOf (n : Int) (compl n o), tr (part w g.1 g.2) = tr (part o g.1 g.2)) :
    runTo pr (n : Int) (upTo n) w = runTo pr (n : Int) (upTo n) o := by
  rw [run_total pr n w hnd fun x hx => hr x ((hm x).mp hx), run_total pr n o hnd' hr, compl_congr hm]
  congr 1
  unfold total
  congr 1
  refine List.map_congr_left fun g hg => ?_
  unfold costG
  rw [h g hg]
theorem forest_iff {n : Int} {w o st : List Int} : forest n w st = forest n o st ↔ ∀ g ∈ gapsOf n st, tr (part w g.1 g.2) = tr (part o g.1 g.2) := by
  unfold forest
  exact List.map_inj_left
/-! ### weaves -/
inductive Wv : List (List Int) → List Int → Prop where
  | nil : Wv [] []
  | step {A B : List (List Int)} {x : Int} {p w : List Int} (h : Wv (A ++ (if p = [] then B else p :: B)) w) : Wv (A ++ (x :: p) :: B) (x :: w)
def flt (f : Int → Bool) (ps : List (List Int)) : List (List Int) := (ps.map (List.filter f)).filter fun p => decide (p ≠ [])
theorem flt_append (f : Int → Bool) (a b : List (List Int)) : flt f (a ++ b) = flt f a ++ flt f b := by unfold flt; rw [List.map_append, List.filter_append]
theorem flt_cons (f : Int → Bool) (p : List Int) (b : List (List Int)) : flt f (p :: b) = if p.filter f = [] then flt f b else p.filter f :: flt f b := by
  unfold flt
  rw [List.map_cons, List.filter_cons]
  by_cases c : p.filter f = []
  · rw [if_pos c, if_neg (by rw [c]; simp)]
  · rw [if_neg c, if_pos (decide_eq_true c)]
theorem Wv.filter {ps : List (List Int)} {w : List Int} (f : Int → Bool) (h : Wv ps w) : Wv (flt f ps) (w.filter f) := by
  induction h with
  | nil => exact .nil
  | @step A B x p w h ih =>
    have e : flt f (A ++ (if p = [] then B else p :: B)) = flt f A ++ (if p.filter f = [] then flt f B else p.filter f :: flt f B) := by
      rw [flt_append]
      by_cases c : p = []
      · rw [if_pos c, c]
        rfl
      · rw [if_neg c, flt_cons]
    rw [e] at ih
    rw [flt_append, flt_cons, List.filter_cons, List.filter_cons]
    cases hx : f x with
    | true =>
      simp only [if_true]
      rw [if_neg (by simp)]
      exact .step ih
    | false =>
      simp only [Bool.false_eq_true, if_false]
      exact ih
theorem Wv.nil_ {w : List Int} (h : Wv [] w) : w = [] := by
  generalize e : ([] : List (List Int)) = ps at h
  cases h with
  | nil => rfl
  | step h => simp at e
theorem Wv.one : ∀ {p w : List Int}, p ≠ [] → Wv [p] w → w = p := by
  intro p w hp h
  generalize e : [p] = ps at h
  induction h generalizing p with
  | nil => cases e
  | @step A B x p' w h ih =>
    cases A with
    | cons a A =>
      simp at e
    | nil =>
      have e' : [p] = (x :: p') :: B := e
      injection e' with e1 e2
      subst e2
      subst e1
      by_cases c : p' = []
      · rw [if_pos c] at h
        rw [Wv.nil_ h, c]
      · rw [if_neg c] at ih
        rw [ih c rfl]
theorem Wv.mem {ps : List (List Int)} {w : List Int} (h : Wv ps w) (y : Int) : y ∈ w ↔ ∃ p ∈ ps, y ∈ p := by
  induction h with
  | nil => simp
  | @step A B x p w h ih =>
    rw [List.mem_cons, ih]
    constructor
    · rintro (e | ⟨q, h1, h2⟩)
      · exact ⟨x :: p, by simp, by simp [e]⟩
      · rcases List.mem_append.mp h1 with m | m
        · exact ⟨q, by simp [m], h2⟩
        · by_cases c : p = []
          · rw [if_pos c] at m
            exact ⟨q, by simp [m], h2⟩
          · rw [if_neg c] at m
            rcases List.mem_cons.mp m with e | m
            · exact ⟨x :: p, by simp, by rw [← e]; simp [h2]⟩
            · exact ⟨q, by simp [m], h2⟩
    · rintro ⟨q, h1, h2⟩
      rcases List.mem_append.mp h1 with m | m
      · exact .inr ⟨q, by simp [m], h2⟩
      · rcases List.mem_cons.mp m with e | m
        · rw [e] at h2
          rcases List.mem_cons.mp h2 with e2 | e2
          · exact .inl e2
          · refine .inr ⟨p, ?_, e2⟩
            rw [if_neg (fun e3 => by rw [e3] at e2; cases e2)]
            simp
        · refine .inr ⟨q, ?_, h2⟩
          by_cases c : p = [] <;> simp [c, m]
/-- a weave of a gap-wise given row of parts: each gap's in its order -/
theorem weave_part {n : Nat} {o w : List Int} (π : Int × Int → List Int) (hπ : ∀ g ∈ gapsOf (n : Int) (compl n o), ∀ y ∈ π g, g.1 < y ∧ y < g.2)
    (h : Wv (((gapsOf (n : Int) (compl n o)).filter fun g => decide (π g ≠ [])).map π) w) : ∀ g ∈ gapsOf (n : Int) (compl n o), part w g.1 g.2 = π g := by
  intro g hg
  have hf := h.filter fun y => decide (g.1 < y) && decide (y < g.2)
  have key : ∀ gs : List (Int × Int), gs.Nodup → (∀ g' ∈ gs, g' ∈ gapsOf (n : Int) (compl n o)) →
      flt (fun y => decide (g.1 < y) && decide (y < g.2)) ((gs.filter fun g => decide (π g ≠ [])).map π) = if g ∈ gs ∧ π g ≠ [] then [π g] else [] := by
    intro gs
    induction gs with
    | nil => intro _ _; simp [flt]
    | cons a r ih =>
      intro hn hs
      obtain ⟨h1, h2⟩ := List.nodup_cons.mp hn
      have ih := ih h2 fun g' hg' => hs g' (List.mem_cons_of_mem _ hg')
      rw [List.filter_cons]
      by_cases c : a = g
      · subst c
        rw [if_neg (fun x => h1 x.1)] at ih
        by_cases d : π a = []
        · rw [if_neg (by simp [d]), ih, if_neg (by simp [d])]
        · have hself : (π a).filter (fun y => decide (a.1 < y) && decide (y < a.2)) = π a := by
            rw [List.filter_eq_self]
            intro y hy
            have := hπ a hg y hy
            simp [this.1, this.2]
          rw [if_pos (decide_eq_true d), List.map_cons, flt_cons, hself, if_neg d, ih, if_pos ⟨List.mem_cons_self, d⟩]
      · have hempty : (π a).filter (fun y => decide (g.1 < y) && decide (y < g.2)) = [] := by
          rw [List.filter_eq_nil_iff]
          intro y hy
          have h3 := hπ a (hs a List.mem_cons_self) y hy
          simp only [Bool.and_eq_true, decide_eq_true_eq]
          intro h4
          exact c (gap_apart (hs a List.mem_cons_self) hg h3 h4)
        have hm : (g ∈ a :: r ∧ π g ≠ []) ↔ (g ∈ r ∧ π g ≠ []) := by
          rw [List.mem_cons]
          constructor
          · rintro ⟨e | e, d⟩
            · exact absurd e.symm c
            · exact ⟨e, d⟩
          · rintro ⟨e, d⟩; exact ⟨.inr e, d⟩
        have hg' : (if g ∈ a :: r ∧ π g ≠ [] then [π g] else []) = if g ∈ r ∧ π g ≠ [] then [π g] else [] := by
          by_cases q : g ∈ r ∧ π g ≠ []
          · rw [if_pos q, if_pos (hm.mpr q)]
          · rw [if_neg q, if_neg fun z => q (hm.mp z)]
        rw [hg', ← ih]
        by_cases d : π a = []
        · rw [if_neg (by simp [d])]
        · rw [if_pos (decide_eq_true d), List.map_cons, flt_cons, if_pos hempty]
  rw [key _ (by rw [gapsOf_eq]; exact pairsOf_nodup (ends_lt n o)) fun _ h => h] at hf
  show w.filter _ = _
  by_cases d : π g = []
  · rw [if_neg (by simp [d])] at hf
    rw [Wv.nil_ hf, d]
  · rw [if_pos ⟨hg, d⟩] at hf
    exact Wv.one d hf
theorem weave_all {n : Nat} {o w : List Int} (hr : ∀ x ∈ o, 0 ≤ x ∧ x < (n : Int)) (π : Int × Int → List Int) (hπ : ∀ g ∈ gapsOf (n : Int) (compl n o), ∀ y, y ∈ π g ↔ g.1 < y ∧ y < g.2) (hπn : ∀ g ∈ gapsOf (n : Int) (compl n o), (π g).Nodup)
    (h : Wv (((gapsOf (n : Int) (compl n o)).filter fun g => decide (π g ≠ [])).map π) w) : (∀ x, x ∈ w ↔ x ∈ o) ∧ w.Nodup ∧ w.length = o.length ∨ ¬ o.Nodup := by
  by_cases hnd : o.Nodup
  · left
    have hm : ∀ x, x ∈ w ↔ x ∈ o := fun x => by
      rw [h.mem x]
      constructor
      · rintro ⟨p, h1, h2⟩
        obtain ⟨g, h3, rfl⟩ := List.mem_map.mp h1
        have h4 := (List.mem_filter.mp h3).1
        have h5 := (hπ g h4 x).mp h2
        exact (gap_ok h4).2.2.2 x h5.1 h5.2
      · intro hx
        obtain ⟨g, h1, h2⟩ := gap_cover (hr x hx).1 (hr x hx).2 hx
        have h3 := (hπ g h1 x).mpr h2
        exact ⟨π g, List.mem_map.mpr ⟨g, List.mem_filter.mpr ⟨h1, decide_eq_true fun e => by rw [e] at h3; cases h3⟩, rfl⟩, h3⟩
    have hwn : w.Nodup := by
      rw [List.nodup_iff_count]
      intro x
      by_cases hx : x ∈ w
      · have hxo := (hm x).mp hx
        obtain ⟨g, h1, h2⟩ := gap_cover (hr x hxo).1 (hr x hxo).2 hxo
        have h3 := weave_part π (fun g hg y hy => (hπ g hg y).mp hy) h g h1
        have h4 : (part w g.1 g.2).count x = w.count x := by
          unfold part
          exact List.count_filter (by simp [h2.1, h2.2])
        rw [← h4, h3]
        exact List.nodup_iff_count.mp (hπn g h1) x
      · rw [List.count_eq_zero_of_not_mem hx]
        exact Nat.zero_le _
    exact ⟨hm, hwn, ((List.perm_ext_iff_of_nodup hwn hnd).mpr hm).length_eq⟩
  · exact .inr hnd
end Sl
/-! SlMath7 -/
namespace Sl
/-! ### all weaves of two -/
def shuf : List Int → List Int → List (List Int)
  | [], b => [b]
  | x :: a, [] => [x :: a]
  | x :: a, y :: b => (shuf a (y :: b)).map (x :: ·) ++ (shuf (x :: a) b).map (y :: ·)
termination_by a b => a.length + b.length
theorem shuf_nil (b : List Int) : shuf [] b = [b] := by rw [shuf]
theorem shuf_nil_r (x : Int) (a : List Int) : shuf (x :: a) [] = [x :: a] := by rw [shuf]
theorem shuf_cons (x : Int) (a : List Int) (y : Int) (b : List Int) : shuf (x :: a) (y :: b) = (shuf a (y :: b)).map (x :: ·) ++ (shuf (x :: a) b).map (y :: ·) := by rw [shuf]
theorem shuf_len : ∀ (n : Nat) (a b : List Int), a.length + b.length ≤ n → (shuf a b).length = bin a.length b.length
  | _, [], b, _ => by rw [shuf_nil, List.length_nil, bin_zero]; rfl
  | _, x :: a, [], _ => by rw [shuf_nil_r, List.length_nil, bin_zero_r]; rfl
  | n + 1, x :: a, y :: b, h => by
    rw [List.length_cons, List.length_cons] at h
    rw [shuf_cons, List.length_append, List.length_map, List.length_map, shuf_len n a (y :: b) (by rw [List.length_cons]; omega), shuf_len n (x :: a) b (by rw [List.length_cons]; omega), List.length_cons, List.length_cons, bin_succ]
theorem filter_none {f : Int → Bool} {w : List Int} (h : w.filter f = []) : w.filter (fun y => !f y) = w := by
  rw [List.filter_eq_self]
  intro y hy
  have := List.filter_eq_nil_iff.mp h y hy
  simpa using this
theorem shuf_mem (f : Int → Bool) : ∀ (n : Nat) (a b w : List Int), a.length + b.length ≤ n → (∀ y ∈ a, f y = true) → (∀ y ∈ b, f y = false) → (w ∈ shuf a b ↔ w.filter f = a ∧ w.filter (fun y => !f y) = b)
  | _, [], b, w, _, _, hb => by
    rw [shuf_nil, List.mem_singleton]
    constructor
    · rintro rfl
      refine ⟨List.filter_eq_nil_iff.mpr fun y hy => by simp [hb y hy], List.filter_eq_self.mpr fun y hy => by simp [hb y hy]⟩
    · rintro ⟨h1, h2⟩
      rw [← h2, filter_none h1]
  | _, x :: a, [], w, _, ha, _ => by
    rw [shuf_nil_r, List.mem_singleton]
    constructor
    · rintro rfl
      refine ⟨List.filter_eq_self.mpr ha, List.filter_eq_nil_iff.mpr fun y hy => by simp [ha y hy]⟩
    · rintro ⟨h1, h2⟩
      have := filter_none h2
      simp only [Bool.not_not] at this
      rw [← h1, this]
  | n + 1, x :: a, y :: b, w, h, ha, hb => by
    rw [List.length_cons, List.length_cons] at h
    have i1 := fun w => shuf_mem f n a (y :: b) w (by rw [List.length_cons]; omega) (fun z hz => ha z (List.mem_cons_of_mem _ hz)) hb
    have i2 := fun w => shuf_mem f n (x :: a) b w (by rw [List.length_cons]; omega) ha (fun z hz => hb z (List.mem_cons_of_mem _ hz))
    have fx := ha x List.mem_cons_self
    have fy := hb y List.mem_cons_self
    rw [shuf_cons, List.mem_append, List.mem_map, List.mem_map]
    constructor
    · rintro (⟨v, hv, rfl⟩ | ⟨v, hv, rfl⟩)
      · obtain ⟨q1, q2⟩ := (i1 v).mp hv
        rw [List.filter_cons, List.filter_cons, fx]
        simp [q1, q2]
      · obtain ⟨q1, q2⟩ := (i2 v).mp hv
        rw [List.filter_cons, List.filter_cons, fy]
        simp [q1, q2]
    · rintro ⟨h1, h2⟩
      cases w with
      | nil => simp at h1
      | cons z v =>
        rw [List.filter_cons] at h1 h2
        cases fz : f z with
        | true =>
          rw [fz] at h1 h2
          simp at h1 h2
          obtain ⟨e1, e2⟩ := h1
          subst e1
          exact .inl ⟨v, (i1 v).mpr ⟨e2, h2⟩, rfl⟩
        | false =>
          rw [fz] at h1 h2
          simp at h1 h2
          obtain ⟨e1, e2⟩ := h2
          subst e1
          exact .inr ⟨v, (i2 v).mpr ⟨h1, e2⟩, rfl⟩
theorem shuf_nodup (f : Int → Bool) : ∀ (n : Nat) (a b : List Int), a.length + b.length ≤ n → (∀ y ∈ a, f y = true) → (∀ y ∈ b, f y = false) → (shuf a b).Nodup
  | _, [], b, _, _, _ => by rw [shuf_nil]; simp
  | _, x :: a, [], _, _, _ => by rw [shuf_nil_r]; simp
  | n + 1, x :: a, y :: b, h, ha, hb => by
    rw [List.length_cons, List.length_cons] at h
    have i1 := shuf_nodup f n a (y :: b) (by rw [List.length_cons]; omega) (fun z hz => ha z (List.mem_cons_of_mem _ hz)) hb
    have i2 := shuf_nodup f n (x :: a) b (by rw [List.length_cons]; omega) ha (fun z hz => hb z (List.mem_cons_of_mem _ hz))
    rw [shuf_cons]
    refine List.nodup_append.mpr ⟨?_, ?_, ?_⟩
    · exact List.pairwise_map.mpr (i1.imp fun h e => h (List.cons.inj e).2)
    · exact List.pairwise_map.mpr (i2.imp fun h e => h (List.cons.inj e).2)
    · intro u hu v hv e
      obtain ⟨u', _, rfl⟩ := List.mem_map.mp hu
      obtain ⟨v', _, rfl⟩ := List.mem_map.mp hv
      have exy := (List.cons.inj e).1
      have := ha x List.mem_cons_self
      rw [exy, hb y List.mem_cons_self] at this
      cases this
/-! ### rows of rows -/
theorem flat_len {α β : Type} {F : α → List β} {c : Nat} : ∀ {L : List α}, (∀ a ∈ L, (F a).length = c) → (L.flatMap F).length = L.length * c
  | [], _ => by simp
  | a :: L, h => by
    rw [List.flatMap_cons, List.length_append, h a List.mem_cons_self, flat_len fun x hx => h x (List.mem_cons_of_mem _ hx), List.length_cons, Nat.succ_mul, Nat.add_comm]
theorem flat_nodup {α β : Type} {F : α → List β} (key : β → α) : ∀ {L : List α}, L.Nodup → (∀ a ∈ L, (F a).Nodup) → (∀ a ∈ L, ∀ w ∈ F a, key w = a) → (L.flatMap F).Nodup
  | [], _, _, _ => by simp
  | a :: L, hn, h1, h2 => by
    obtain ⟨n1, n2⟩ := List.nodup_cons.mp hn
    rw [List.flatMap_cons]
    refine List.nodup_append.mpr ⟨h1 a List.mem_cons_self, flat_nodup key n2 (fun x hx => h1 x (List.mem_cons_of_mem _ hx)) (fun x hx => h2 x (List.mem_cons_of_mem _ hx)), fun u hu v hv e => ?_⟩
    obtain ⟨a', ha', hv'⟩ := List.mem_flatMap.mp hv
    have k1 := h2 a List.mem_cons_self u hu
    have k2 := h2 a' (List.mem_cons_of_mem _ ha') v hv'
    rw [e, k2] at k1
    rw [k1] at ha'
    exact n1 ha'
/-! ### all orders of a tree -/
def extsL : Tree → List (List Int)
  | .nil => [[]]
  | .node x l r => (extsL l).flatMap fun a => (extsL r).flatMap fun b => (shuf a b).map (· ++ [x])
theorem inB_mem (o : List Int) : ∀ lo hi, InB (tr o) lo hi → ∀ y ∈ o, lo < y ∧ y < hi := by
  refine snocInd (P := fun o => ∀ lo hi, InB (tr o) lo hi → ∀ y ∈ o, lo < y ∧ y < hi) (fun _ _ _ y hy => by cases hy) (fun o x ih lo hi h y hy => ?_) o
  rw [tr_snoc] at h
  obtain ⟨h1, h2, h3, h4⟩ := h
  rcases List.mem_append.mp hy with m | m
  · by_cases c : y < x
    · have := ih _ (List.length_filter_le _ _) _ _ h3 y (List.mem_filter.mpr ⟨m, decide_eq_true c⟩)
      omega
    · by_cases d : y = x
      · omega
      · have := ih _ (List.length_filter_le _ _) _ _ h4 y (List.mem_filter.mpr ⟨m, decide_eq_true (by omega)⟩)
        omega
  · simp at m; omega
theorem nodup_split {f : Int → Bool} {w a b : List Int} (h1 : w.filter f = a) (h2 : w.filter (fun y => !f y) = b) (ha : a.Nodup) (hb : b.Nodup) (fa : ∀ y ∈ a, f y = true) (fb : ∀ y ∈ b, f y = false) : w.Nodup := by
  have hp : (a ++ b).Perm w := by rw [← h1, ← h2]; exact List.filter_append_perm f w
  refine hp.nodup_iff.mp (List.nodup_append.mpr ⟨ha, hb, fun u hu v hv e => ?_⟩)
  have := fa u hu
  rw [e, fb v hv] at this
  cases this
theorem mem_split {f : Int → Bool} {w a b : List Int} (h1 : w.filter f = a) (h2 : w.filter (fun y => !f y) = b) (y : Int) : y ∈ w ↔ y ∈ a ∨ y ∈ b := by
  rw [← h1, ← h2, List.mem_filter, List.mem_filter]
  cases f y <;> simp
theorem tr_nil_iff {w : List Int} (h : tr w = .nil) : w = [] := by
  rcases List.eq_nil_or_concat w with e | ⟨w', x, e⟩
  · exact e
  · rw [e, List.concat_eq_append, tr_snoc] at h
    cases h
theorem tr_node {w : List Int} {x : Int} {l r : Tree} (h : tr w = .node x l r) : ∃ w', w = w' ++ [x] ∧ tr (w'.filter fun y => decide (y < x)) = l ∧ tr (w'.filter fun y => decide (x < y)) = r := by
  rcases List.eq_nil_or_concat w with e | ⟨w', z, e⟩
  · rw [e] at h
    cases h
  · rw [e, List.concat_eq_append, tr_snoc] at h
    injection h with h1 h2 h3
    subst h1
    exact ⟨w', by rw [e, List.concat_eq_append], h2, h3⟩
theorem not_lt_filter {x : Int} {w : List Int} (h : x ∉ w) : (w.filter fun y => !decide (y < x)) = w.filter fun y => decide (x < y) := by
  refine List.filter_congr fun y hy => ?_
  have : y ≠ x := fun e => h (e ▸ hy)
  by_cases c : y < x
  · simp [c]; omega
  · simp [c]; omega
theorem exts_mem : ∀ (t : Tree) (lo hi : Int), InB t lo hi → ∀ w, w ∈ extsL t ↔ w.Nodup ∧ tr w = t
  | .nil, _, _, _, w => by
    show w ∈ [[]] ↔ _
    rw [List.mem_singleton]
    constructor
    · rintro rfl; exact ⟨.nil, rfl⟩
    · rintro ⟨_, h⟩; exact tr_nil_iff h
  | .node x l r, lo, hi, h, w => by
    obtain ⟨b1, b2, b3, b4⟩ := h
    have i1 := exts_mem l lo x b3
    have i2 := exts_mem r x hi b4
    have la : ∀ a ∈ extsL l, ∀ y ∈ a, decide (y < x) = true := fun a ha y hy => by
      have e := (i1 a).mp ha
      exact decide_eq_true (inB_mem a lo x (by rw [e.2]; exact b3) y hy).2
    have lb : ∀ b ∈ extsL r, ∀ y ∈ b, decide (y < x) = false := fun b hb y hy => by
      have e := (i2 b).mp hb
      have := (inB_mem b x hi (by rw [e.2]; exact b4) y hy).1
      exact decide_eq_false (by omega)
    show w ∈ (extsL l).flatMap (fun a => (extsL r).flatMap fun b => (shuf a b).map (· ++ [x])) ↔ _
    rw [List.mem_flatMap]
    constructor
    · rintro ⟨a, ha, h2⟩
      obtain ⟨b, hb, h3⟩ := List.mem_flatMap.mp h2
      obtain ⟨w', h4, rfl⟩ := List.mem_map.mp h3
      obtain ⟨q1, q2⟩ := (shuf_mem (fun y => decide (y < x)) _ a b w' (Nat.le_refl _) (la a ha) (lb b hb)).mp h4
      have ea := (i1 a).mp ha
      have eb := (i2 b).mp hb
      have hx : x ∉ w' := fun m => by
        rcases (mem_split q1 q2 x).mp m with m | m
        · have := of_decide_eq_true (la a ha x m); omega
        · have := (inB_mem b x hi (by rw [eb.2]; exact b4) x m).1; omega
      refine ⟨List.nodup_append.mpr ⟨nodup_split q1 q2 ea.1 eb.1 (la a ha) (lb b hb), by simp, fun u hu v hv e => ?_⟩, ?_⟩
      · simp at hv
        exact hx (by rw [← hv, ← e]; exact hu)
      · rw [tr_snoc, q1, ← not_lt_filter hx, q2, ea.2, eb.2]
    · rintro ⟨hn, ht⟩
      obtain ⟨w', rfl, e1, e2⟩ := tr_node ht
      obtain ⟨n1, n2, n3⟩ := List.nodup_append.mp hn
      have hx : x ∉ w' := fun m => n3 x m x (by simp) rfl
      have ha := (i1 (w'.filter fun y => decide (y < x))).mpr ⟨n1.filter _, e1⟩
      have hb := (i2 (w'.filter fun y => decide (x < y))).mpr ⟨n1.filter _, e2⟩
      refine ⟨_, ha, List.mem_flatMap.mpr ⟨_, hb, List.mem_map.mpr ⟨w', ?_, rfl⟩⟩⟩
      exact (shuf_mem (fun y => decide (y < x)) _ _ _ w' (Nat.le_refl _) (la _ ha) (lb _ hb)).mpr ⟨rfl, not_lt_filter hx⟩
theorem exts_len : ∀ (t : Tree) (lo hi : Int), InB t lo hi → (extsL t).length = t.exts
  | .nil, _, _, _ => rfl
  | .node x l r, lo, hi, h => by
    obtain ⟨b1, b2, b3, b4⟩ := h
    have i1 := exts_len l lo x b3
    have i2 := exts_len r x hi b4
    have sa : ∀ a ∈ extsL l, a.length = l.size := fun a ha => by
      have e := (exts_mem l lo x b3 a).mp ha
      rw [← e.2, tr_size a e.1]
    have sb : ∀ b ∈ extsL r, b.length = r.size := fun b hb => by
      have e := (exts_mem r x hi b4 b).mp hb
      rw [← e.2, tr_size b e.1]
    show ((extsL l).flatMap fun a => (extsL r).flatMap fun b => (shuf a b).map (· ++ [x])).length = bin l.size r.size * (l.exts * r.exts)
    rw [flat_len (c := r.exts * bin l.size r.size) fun a ha => ?_, i1]
    · simp only [Nat.mul_assoc, Nat.mul_comm, Nat.mul_left_comm]
    · rw [flat_len (c := bin l.size r.size) fun b hb => ?_, i2]
      rw [List.length_map, shuf_len _ a b (Nat.le_refl _), sa a ha, sb b hb]
theorem exts_nodup : ∀ (t : Tree) (lo hi : Int), InB t lo hi → (extsL t).Nodup
  | .nil, _, _, _ => by show ([[]] : List (List Int)).Nodup; simp
  | .node x l r, lo, hi, h => by
    obtain ⟨b1, b2, b3, b4⟩ := h
    have la : ∀ a ∈ extsL l, ∀ y ∈ a, decide (y < x) = true := fun a ha y hy => by
      have e := (exts_mem l lo x b3 a).mp ha
      exact decide_eq_true (inB_mem a lo x (by rw [e.2]; exact b3) y hy).2
    have lb : ∀ b ∈ extsL r, ∀ y ∈ b, decide (y < x) = false := fun b hb y hy => by
      have e := (exts_mem r x hi b4 b).mp hb
      have := (inB_mem b x hi (by rw [e.2]; exact b4) y hy).1
      exact decide_eq_false (by omega)
    show ((extsL l).flatMap fun a => (extsL r).flatMap fun b => (shuf a b).map (· ++ [x])).Nodup
    refine flat_nodup (fun w => w.dropLast.filter fun y => decide (y < x)) (exts_nodup l lo x b3) (fun a ha => ?_) (fun a ha w hw => ?_)
    · refine flat_nodup (fun w => w.dropLast.filter fun y => !decide (y < x)) (exts_nodup r x hi b4) (fun b hb => ?_) (fun b hb w hw => ?_)
      · exact List.pairwise_map.mpr ((shuf_nodup (fun y => decide (y < x)) _ a b (Nat.le_refl _) (la a ha) (lb b hb)).imp fun h e => h (List.append_cancel_right e))
      · obtain ⟨w', h4, rfl⟩ := List.mem_map.mp hw
        rw [List.dropLast_concat]
        exact ((shuf_mem (fun y => decide (y < x)) _ a b w' (Nat.le_refl _) (la a ha) (lb b hb)).mp h4).2
    · obtain ⟨b, hb, h3⟩ := List.mem_flatMap.mp hw
      obtain ⟨w', h4, rfl⟩ := List.mem_map.mp h3
      rw [List.dropLast_concat]
      exact ((shuf_mem (fun y => decide (y < x)) _ a b w' (Nat.le_refl _) (la a ha) (lb b hb)).mp h4).1
/-! ### all orders of a forest -/
def forL : List Tree → List (List Int)
  | [] => [[]]
  | t :: ts => (extsL t).flatMap fun a => (forL ts).flatMap fun b => shuf a b
def ways : List Nat → Nat
  | [] => 1
  | k :: ks => bin k ks.sum * ways ks
def prodE (ts : List Tree) : Nat := (ts.map Tree.exts).foldr (· * ·) 1
def prodP (ts : List Tree) : Nat := (ts.map Tree.prod).foldr (· * ·) 1
def sizes (ts : List Tree) : List Nat := ts.map Tree.size
/-- gaps from the left to the right, each with its tree -/
def Row (T : Int × Int → Tree) (gs : List (Int × Int)) : Prop := gs.Pairwise (fun g g' => g.2 ≤ g'.1) ∧ ∀ g ∈ gs, g.1 < g.2 ∧ InB (T g) g.1 g.2
theorem Row.tail {T : Int × Int → Tree} {g : Int × Int} {gs : List (Int × Int)} (h : Row T (g :: gs)) : Row T gs := ⟨(List.pairwise_cons.mp h.1).2, fun x hx => h.2 x (List.mem_cons_of_mem _ hx)⟩
theorem for_mem (T : Int × Int → Tree) : ∀ (gs : List (Int × Int)), Row T gs → ∀ w, w ∈ forL (gs.map T) ↔ w.Nodup ∧ (∀ y ∈ w, ∃ g ∈ gs, g.1 < y ∧ y < g.2) ∧ ∀ g ∈ gs, tr (part w g.1 g.2) = T g
  | [], _, w => by
    show w ∈ [[]] ↔ _
    rw [List.mem_singleton]
    constructor
    · rintro rfl
      exact ⟨.nil, by simp, by simp⟩
    · rintro ⟨_, h, _⟩
      cases w with
      | nil => rfl
      | cons y r =>
        obtain ⟨g, hg, _⟩ := h y List.mem_cons_self
        cases hg
  | g :: gs, hR, w => by
    have ih := for_mem T gs hR.tail
    obtain ⟨c1, c2⟩ := List.pairwise_cons.mp hR.1
    obtain ⟨g0, gB⟩ := hR.2 g List.mem_cons_self
    have em := exts_mem (T g) g.1 g.2 gB
    have la : ∀ a ∈ extsL (T g), ∀ y ∈ a, g.1 < y ∧ y < g.2 := fun a ha y hy => by
      have e := (em a).mp ha
      exact inB_mem a g.1 g.2 (by rw [e.2]; exact gB) y hy
    have la' : ∀ a ∈ extsL (T g), ∀ y ∈ a, decide (y < g.2) = true := fun a ha y hy => decide_eq_true (la a ha y hy).2
    have lb : ∀ b ∈ forL (gs.map T), ∀ y ∈ b, g.2 < y := fun b hb y hy => by
      obtain ⟨_, h2, _⟩ := (ih b).mp hb
      obtain ⟨g', hg', h3⟩ := h2 y hy
      have := c1 g' hg'
      omega
    have lb' : ∀ b ∈ forL (gs.map T), ∀ y ∈ b, decide (y < g.2) = false := fun b hb y hy => decide_eq_false (by have := lb b hb y hy; omega)
    show w ∈ (extsL (T g)).flatMap (fun a => (forL (gs.map T)).flatMap fun b => shuf a b) ↔ _
    rw [List.mem_flatMap]
    constructor
    · rintro ⟨a, ha, h2⟩
      obtain ⟨b, hb, h3⟩ := List.mem_flatMap.mp h2
      obtain ⟨q1, q2⟩ := (shuf_mem (fun y => decide (y < g.2)) _ a b w (Nat.le_refl _) (la' a ha) (lb' b hb)).mp h3
      have ea := (em a).mp ha
      obtain ⟨eb1, eb2, eb3⟩ := (ih b).mp hb
      have hms := mem_split q1 q2
      refine ⟨nodup_split q1 q2 ea.1 eb1 (la' a ha) (lb' b hb), fun y hy => ?_, fun g' hg' => ?_⟩
      · rcases (hms y).mp hy with m | m
        · exact ⟨g, List.mem_cons_self, la a ha y m⟩
        · obtain ⟨g', h5, h6⟩ := eb2 y m
          exact ⟨g', List.mem_cons_of_mem _ h5, h6⟩
      · rcases List.mem_cons.mp hg' with e | e
        · subst e
          have : part w g'.1 g'.2 = a := by
            rw [← q1]
            refine List.filter_congr fun y hy => ?_
            rcases (hms y).mp hy with m | m
            · have := la a ha y m; simp [this.1, this.2]
            · have := lb b hb y m; simp; omega
          rw [this, ea.2]
        · have hle := c1 g' e
          have h1 := (hR.2 g' hg').1
          have : part w g'.1 g'.2 = part b g'.1 g'.2 := by
            rw [← q2]
            unfold part
            rw [List.filter_filter]
            refine List.filter_congr fun y _ => ?_
            rw [Bool.eq_iff_iff]
            simp only [Bool.and_eq_true, decide_eq_true_eq, Bool.not_eq_true', decide_eq_false_iff_not]
            constructor
            · rintro ⟨z1, z2⟩; exact ⟨⟨z1, z2⟩, by omega⟩
            · rintro ⟨z1, z2⟩; exact z1
          rw [this]
          exact eb3 g' e
    · rintro ⟨hn, h1, h2⟩
      have hpa : part w g.1 g.2 = w.filter fun y => decide (y < g.2) := by
        refine List.filter_congr fun y hy => ?_
        obtain ⟨g', h5, h6⟩ := h1 y hy
        rcases List.mem_cons.mp h5 with e | e
        · subst e; simp [h6.1, h6.2]
        · have := c1 g' e
          have d1 : ¬ y < g.2 := by omega
          simp [d1]
      have ha : (w.filter fun y => decide (y < g.2)) ∈ extsL (T g) := (em _).mpr ⟨hn.filter _, by rw [← hpa]; exact h2 g List.mem_cons_self⟩
      have hb : (w.filter fun y => !decide (y < g.2)) ∈ forL (gs.map T) := by
        refine (ih _).mpr ⟨hn.filter _, fun y hy => ?_, fun g' hg' => ?_⟩
        · obtain ⟨m1, m2⟩ := List.mem_filter.mp hy
          obtain ⟨g', h5, h6⟩ := h1 y m1
          rcases List.mem_cons.mp h5 with e | e
          · subst e
            simp at m2
            omega
          · exact ⟨g', e, h6⟩
        · have hle := c1 g' hg'
          rw [← h2 g' (List.mem_cons_of_mem _ hg')]
          congr 1
          unfold part
          rw [List.filter_filter]
          refine List.filter_congr fun y _ => ?_
          rw [Bool.eq_iff_iff]
          simp only [Bool.and_eq_true, decide_eq_true_eq, Bool.not_eq_true', decide_eq_false_iff_not]
          constructor
          · rintro ⟨z1, z2⟩; exact z1
          · rintro ⟨z1, z2⟩; exact ⟨⟨z1, z2⟩, by omega⟩
      exact ⟨_, ha, List.mem_flatMap.mpr ⟨_, hb, (shuf_mem (fun y => decide (y < g.2)) _ _ _ w (Nat.le_refl _) (la' _ ha) (lb' _ hb)).mpr ⟨rfl, rfl⟩⟩⟩
theorem for_size (T : Int × Int → Tree) : ∀ (gs : List (Int × Int)), Row T gs → ∀ w ∈ forL (gs.map T), w.length = (sizes (gs.map T)).sum
  | [], _, w, h => by
    have : w = [] := by simpa [forL] using h
    rw [this]
    rfl
  | g :: gs, hR, w, h => by
    obtain ⟨g0, gB⟩ := hR.2 g List.mem_cons_self
    have h' : w ∈ (extsL (T g)).flatMap (fun a => (forL (gs.map T)).flatMap fun b => shuf a b) := h
    obtain ⟨a, ha, h2⟩ := List.mem_flatMap.mp h'
    obtain ⟨b, hb, h3⟩ := List.mem_flatMap.mp h2
    have e := (exts_mem (T g) g.1 g.2 gB a).mp ha
    have sa : a.length = (T g).size := by rw [← e.2, tr_size a e.1]
    have sb := for_size T gs hR.tail b hb
    have ls : ∀ (n : Nat) (a b w : List Int), a.length + b.length ≤ n → w ∈ shuf a b → w.length = a.length + b.length := by
      intro n
      induction n with
      | zero =>
        intro a b w h hw
        have : a = [] := List.length_eq_zero_iff.mp (by omega)
        subst this
        rw [shuf_nil, List.mem_singleton] at hw
        rw [hw]; simp
      | succ n ih =>
        intro a b w h hw
        cases a with
        | nil => rw [shuf_nil, List.mem_singleton] at hw; rw [hw]; simp
        | cons x a =>
          cases b with
          | nil => rw [shuf_nil_r, List.mem_singleton] at hw; rw [hw]; simp
          | cons y b =>
            rw [List.length_cons, List.length_cons] at h
            rw [shuf_cons, List.mem_append, List.mem_map, List.mem_map] at hw
            rcases hw with ⟨v, hv, rfl⟩ | ⟨v, hv, rfl⟩
            · have := ih a (y :: b) v (by rw [List.length_cons]; omega) hv
              simp only [List.length_cons] at *
              omega
            · have := ih (x :: a) b v (by rw [List.length_cons]; omega) hv
              simp only [List.length_cons] at *
              omega
    rw [ls _ a b w (Nat.le_refl _) h3, sa, sb]
    rfl
theorem for_len (T : Int × Int → Tree) : ∀ (gs : List (Int × Int)), Row T gs → (forL (gs.map T)).length = ways (sizes (gs.map T)) * prodE (gs.map T)
  | [], _ => rfl
  | g :: gs, hR => by
    obtain ⟨g0, gB⟩ := hR.2 g List.mem_cons_self
    have ih := for_len T gs hR.tail
    have sa : ∀ a ∈ extsL (T g), a.length = (T g).size := fun a ha => by
      have e := (exts_mem (T g) g.1 g.2 gB a).mp ha
      rw [← e.2, tr_size a e.1]
    have sb := for_size T gs hR.tail
    show ((extsL (T g)).flatMap fun a => (forL (gs.map T)).flatMap fun b => shuf a b).length = bin (T g).size (sizes (gs.map T)).sum * ways (sizes (gs.map T)) * ((T g).exts * prodE (gs.map T))
    rw [flat_len (c := (ways (sizes (gs.map T)) * prodE (gs.map T)) * bin (T g).size (sizes (gs.map T)).sum) fun a ha => ?_, exts_len (T g) g.1 g.2 gB]
    · simp only [Nat.mul_assoc, Nat.mul_comm, Nat.mul_left_comm]
    · rw [flat_len (c := bin (T g).size (sizes (gs.map T)).sum) fun b hb => ?_, ih]
      rw [shuf_len _ a b (Nat.le_refl _), sa a ha, sb b hb]
theorem for_nodup (T : Int × Int → Tree) : ∀ (gs : List (Int × Int)), Row T gs → (forL (gs.map T)).Nodup
  | [], _ => by show ([[]] : List (List Int)).Nodup; simp
  | g :: gs, hR => by
    obtain ⟨c1, c2⟩ := List.pairwise_cons.mp hR.1
    obtain ⟨g0, gB⟩ := hR.2 g List.mem_cons_self
    have la : ∀ a ∈ extsL (T g), ∀ y ∈ a, decide (y < g.2) = true := fun a ha y hy => by
      have e := (exts_mem (T g) g.1 g.2 gB a).mp ha
      exact decide_eq_true (inB_mem a g.1 g.2 (by rw [e.2]; exact gB) y hy).2
    have lb : ∀ b ∈ forL (gs.map T), ∀ y ∈ b, decide (y < g.2) = false := fun b hb y hy => by
      obtain ⟨_, h2, _⟩ := (for_mem T gs hR.tail b).mp hb
      obtain ⟨g', hg', h3⟩ := h2 y hy
      have := c1 g' hg'
      exact decide_eq_false (by omega)
    show ((extsL (T g)).flatMap fun a => (forL (gs.map T)).flatMap fun b => shuf a b).Nodup
    refine flat_nodup (fun w => w.filter fun y => decide (y < g.2)) (exts_nodup _ _ _ gB) (fun a ha => ?_) (fun a ha w hw => ?_)
    · refine flat_nodup (fun w => w.filter fun y => !decide (y < g.2)) (for_nodup T gs hR.tail) (fun b hb => ?_) (fun b hb w hw => ?_)
      · exact shuf_nodup (fun y => decide (y < g.2)) _ a b (Nat.le_refl _) (la a ha) (lb b hb)
      · exact ((shuf_mem (fun y => decide (y < g.2)) _ a b w (Nat.le_refl _) (la a ha) (lb b hb)).mp hw).2
    · obtain ⟨b, hb, h3⟩ := List.mem_flatMap.mp hw
      exact ((shuf_mem (fun y => decide (y < g.2)) _ a b w (Nat.le_refl _) (la a ha) (lb b hb)).mp h3).1
/-! ### the numbers -/
theorem ways_fac : ∀ ks : List Nat, ways ks * (ks.map fac).foldr (· * ·) 1 = fac ks.sum
  | [] => rfl
  | k :: ks => by
    have ih := ways_fac ks
    show bin k ks.sum * ways ks * (fac k * (ks.map fac).foldr (· * ·) 1) = fac (k + ks.sum)
    rw [← bin_fac, ← ih]
    simp only [Nat.mul_assoc, Nat.mul_comm, Nat.mul_left_comm]
theorem exts_fac : ∀ ts : List Tree, prodE ts * prodP ts = ((sizes ts).map fac).foldr (· * ·) 1
  | [] => rfl
  | t :: ts => by
    have ih := exts_fac ts
    show t.exts * prodE ts * (t.prod * prodP ts) = fac t.size * ((sizes ts).map fac).foldr (· * ·) 1
    rw [← ih, ← t.exts_prod]
    simp only [Nat.mul_assoc, Nat.mul_comm, Nat.mul_left_comm]
theorem for_fac (ts : List Tree) : ways (sizes ts) * prodE ts * prodP ts = fac (sizes ts).sum := by
  rw [← ways_fac, ← exts_fac, Nat.mul_assoc]
theorem fold_div : ∀ (ts : List Tree) (N : Nat), ts.foldl (fun f t => f / t.prod) (N * prodP ts) = N
  | [], N => Nat.mul_one N
  | t :: ts, N => by
    show ts.foldl (fun f t => f / t.prod) (N * (t.prod * prodP ts) / t.prod) = N
    rw [show N * (t.prod * prodP ts) = N * prodP ts * t.prod by simp only [Nat.mul_assoc, Nat.mul_comm, Nat.mul_left_comm], Nat.mul_div_cancel _ t.prod_pos]
    exact fold_div ts N
/-- the law's way to count weaves -/
def lw : Nat → List Nat → Nat
  | _, [] => 1
  | M, k :: ks => bin M k * lw (M + k) ks
theorem lw_fac : ∀ (ks : List Nat) (M : Nat), lw M ks * (fac M * (ks.map fac).foldr (· * ·) 1) = fac (M + ks.sum)
  | [], M => by show 1 * (fac M * 1) = fac (M + 0); rw [Nat.one_mul, Nat.mul_one]; rfl
  | k :: ks, M => by
    have ih := lw_fac ks (M + k)
    show bin M k * lw (M + k) ks * (fac M * (fac k * (ks.map fac).foldr (· * ·) 1)) = fac (M + (k + ks.sum))
    rw [← Nat.add_assoc, ← ih, ← bin_fac M k]
    simp only [Nat.mul_assoc, Nat.mul_comm, Nat.mul_left_comm]
theorem facs_pos : ∀ ks : List Nat, 0 < (ks.map fac).foldr (· * ·) 1
  | [] => Nat.one_pos
  | k :: ks => Nat.mul_pos (fac_pos k) (facs_pos ks)
theorem lw_ways (ks : List Nat) : lw 0 ks = ways ks := by
  have h1 := lw_fac ks 0
  have h2 := ways_fac ks
  rw [Nat.zero_add, ← h2] at h1
  have : lw 0 ks * (ks.map fac).foldr (· * ·) 1 = ways ks * (ks.map fac).foldr (· * ·) 1 := by
    rw [← h1]
    show _ = lw 0 ks * (1 * _)
    rw [Nat.one_mul]
  exact Nat.eq_of_mul_eq_mul_right (facs_pos ks) this
theorem lw_filter : ∀ (ks : List Nat) (M : Nat), lw M (ks.filter fun k => decide (k ≠ 0)) = lw M ks
  | [], _ => rfl
  | k :: ks, M => by
    rw [List.filter_cons]
    by_cases c : k = 0
    · subst c
      rw [if_neg (by simp)]
      show _ = bin M 0 * lw (M + 0) ks
      rw [bin_zero_r, Nat.one_mul]
      exact lw_filter ks M
    · rw [if_pos (decide_eq_true c)]
      show bin M k * lw (M + k) _ = bin M k * lw (M + k) ks
      rw [lw_filter ks (M + k)]
end Sl
/-! SlMath8 -/
namespace Sl
/-! ### exchanges -/
/-- a place strictly between two -/
def Btw (m x y : Int) : Prop := (x < m ∧ m < y) ∨ (y < m ∧ m < x)
theorem tr_swap (B : List Int) : ∀ (A : List Int) (x y : Int), (∃ m ∈ B, Btw m x y) → tr (A ++ x :: y :: B) = tr (A ++ y :: x :: B) := by
  refine snocInd (P := fun B => ∀ (A : List Int) (x y : Int), (∃ m ∈ B, Btw m x y) → tr (A ++ x :: y :: B) = tr (A ++ y :: x :: B)) (fun A x y h => by obtain ⟨m, hm, _⟩ := h; cases hm) (fun B z ih A x y h => ?_) B
  obtain ⟨m, hm, hb⟩ := h
  have e1 : A ++ x :: y :: (B ++ [z]) = (A ++ x :: y :: B) ++ [z] := by simp
  have e2 : A ++ y :: x :: (B ++ [z]) = (A ++ y :: x :: B) ++ [z] := by simp
  rw [e1, e2, tr_snoc, tr_snoc]
  have key : ∀ f : Int → Bool, (f x = true → f y = true → ∃ m ∈ B.filter f, Btw m x y) → tr ((A ++ x :: y :: B).filter f) = tr ((A ++ y :: x :: B).filter f) := by
    intro f hf
    rw [List.filter_append, List.filter_append, List.filter_cons, List.filter_cons, List.filter_cons, List.filter_cons]
    cases fx : f x with
    | false => cases fy : f y <;> simp
    | true =>
      cases fy : f y with
      | false => simp
      | true =>
        simp only [if_true]
        exact ih _ (List.length_filter_le _ _) _ x y (hf fx fy)
  congr 1
  · refine key _ fun fx fy => ?_
    have hx := of_decide_eq_true fx
    have hy := of_decide_eq_true fy
    have hmz : m < z := by rcases hb with h | h <;> omega
    refine ⟨m, List.mem_filter.mpr ⟨?_, decide_eq_true hmz⟩, hb⟩
    rcases List.mem_append.mp hm with e | e
    · exact e
    · simp at e; omega
  · refine key _ fun fx fy => ?_
    have hx := of_decide_eq_true fx
    have hy := of_decide_eq_true fy
    have hmz : z < m := by rcases hb with h | h <;> omega
    refine ⟨m, List.mem_filter.mpr ⟨?_, decide_eq_true hmz⟩, hb⟩
    rcases List.mem_append.mp hm with e | e
    · exact e
    · simp at e; omega
/-! ### what stands in a tree -/
def InT : Tree → Int → Prop
  | .nil, _ => False
  | .node k l r, y => y = k ∨ InT l y ∨ InT r y
theorem inT_mem (o : List Int) : ∀ y, InT (tr o) y ↔ y ∈ o := by
  refine snocInd (P := fun o => ∀ y, InT (tr o) y ↔ y ∈ o) (fun y => ?_) (fun o x ih y => ?_) o
  · show False ↔ y ∈ []
    simp
  · rw [tr_snoc]
    show (y = x ∨ InT (tr _) y ∨ InT (tr _) y) ↔ _
    rw [ih _ (List.length_filter_le _ _), ih _ (List.length_filter_le _ _), List.mem_filter, List.mem_filter, List.mem_append, List.mem_singleton, decide_eq_true_eq, decide_eq_true_eq]
    constructor
    · rintro (h | h | h)
      · exact .inr h
      · exact .inl h.1
      · exact .inl h.1
    · rintro (h | h)
      · by_cases c : y = x
        · exact .inl c
        · by_cases d : y < x
          · exact .inr (.inl ⟨h, d⟩)
          · exact .inr (.inr ⟨h, by omega⟩)
      · exact .inl h
/-- x before y -/
def Bef (w : List Int) (x y : Int) : Prop := ∃ a b, w = a ++ x :: b ∧ y ∈ b
theorem bef_filter {f : Int → Bool} {x y : Int} : ∀ {w : List Int}, Bef (w.filter f) x y → Bef w x y
  | [], ⟨a, b, h, _⟩ => by simp at h
  | z :: w, ⟨a, b, h, hy⟩ => by
    rw [List.filter_cons] at h
    cases fz : f z with
    | false =>
      rw [fz] at h
      simp only [Bool.false_eq_true, if_false] at h
      obtain ⟨a', b', h1, h2⟩ := bef_filter (w := w) ⟨a, b, h, hy⟩
      exact ⟨z :: a', b', by rw [h1]; rfl, h2⟩
    | true =>
      rw [fz] at h
      simp only [if_true] at h
      cases a with
      | nil =>
        have h' : z :: w.filter f = x :: b := h
        injection h' with e1 e2
        subst e1
        refine ⟨[], w, rfl, ?_⟩
        rw [← e2] at hy
        exact (List.mem_filter.mp hy).1
      | cons c a =>
        have h' : z :: w.filter f = c :: (a ++ x :: b) := h
        injection h' with e1 e2
        obtain ⟨a', b', h1, h2⟩ := bef_filter (w := w) ⟨a, b, e2, hy⟩
        exact ⟨z :: a', b', by rw [h1]; rfl, h2⟩
theorem bef_snoc {w : List Int} {x y z : Int} (h : Bef w x y) : Bef (w ++ [z]) x y := by
  obtain ⟨a, b, h1, h2⟩ := h
  exact ⟨a, b ++ [z], by rw [h1]; simp, by simp [h2]⟩
/-- neighbours: the tree tells which of them goes first -/
theorem below (B : List Int) : ∀ (A : List Int) (x y : Int) (w : List Int), (A ++ x :: y :: B).Nodup → (∀ m ∈ B, ¬ Btw m x y) → tr w = tr (A ++ x :: y :: B) → Bef w x y := by
  refine snocInd (P := fun B => ∀ (A : List Int) (x y : Int) (w : List Int), (A ++ x :: y :: B).Nodup → (∀ m ∈ B, ¬ Btw m x y) → tr w = tr (A ++ x :: y :: B) → Bef w x y) (fun A x y w hn _ ht => ?_) (fun B z ih A x y w hn hb ht => ?_) B
  · have e : A ++ [x, y] = (A ++ [x]) ++ [y] := by simp
    rw [e, tr_snoc] at ht
    obtain ⟨w', rfl, t1, t2⟩ := tr_node ht
    have hxy : x ≠ y := by
      intro q
      subst q
      have := (List.nodup_append.mp hn).2.1
      simp at this
    have hx : x ∈ w' := by
      by_cases c : x < y
      · have : x ∈ (A ++ [x]).filter fun u => decide (u < y) := List.mem_filter.mpr ⟨by simp, decide_eq_true c⟩
        have := (inT_mem _ x).mpr this
        rw [← t1] at this
        exact (List.mem_filter.mp ((inT_mem _ x).mp this)).1
      · have : x ∈ (A ++ [x]).filter fun u => decide (y < u) := List.mem_filter.mpr ⟨by simp, decide_eq_true (by omega)⟩
        have := (inT_mem _ x).mpr this
        rw [← t2] at this
        exact (List.mem_filter.mp ((inT_mem _ x).mp this)).1
    obtain ⟨a, b, e2⟩ := List.append_of_mem hx
    exact ⟨a, b ++ [y], by rw [e2]; simp, by simp⟩
  · have e : A ++ x :: y :: (B ++ [z]) = (A ++ x :: y :: B) ++ [z] := by simp
    rw [e] at hn ht
    rw [tr_snoc] at ht
    obtain ⟨w', rfl, t1, t2⟩ := tr_node ht
    obtain ⟨n1, n2, n3⟩ := List.nodup_append.mp hn
    have hzx : x ≠ z := fun q => n3 x (by simp) z (by simp) q
    have hzy : y ≠ z := fun q => n3 y (by simp) z (by simp) q
    have hzb : ¬ Btw z x y := hb z (by simp)
    refine bef_snoc ?_
    have go : ∀ f : Int → Bool, f x = true → f y = true → tr (w'.filter f) = tr ((A ++ x :: y :: B).filter f) → Bef w' x y := by
      intro f fx fy t
      have e3 : (A ++ x :: y :: B).filter f = A.filter f ++ x :: y :: B.filter f := by
        rw [List.filter_append, List.filter_cons, List.filter_cons, fx, fy]
        rfl
      refine bef_filter (f := f) (ih _ (List.length_filter_le _ _) (A.filter f) x y _ (by rw [← e3]; exact n1.filter _) (fun m hm => hb m (by simp [(List.mem_filter.mp hm).1])) (by rw [← e3]; exact t))
    unfold Btw at hzb
    by_cases c : x < z
    · have : y < z := by omega
      exact go _ (decide_eq_true c) (decide_eq_true this) t1
    · have h1 : z < x := by omega
      have h2 : z < y := by omega
      exact go (fun u => decide (z < u)) (decide_eq_true h1) (decide_eq_true h2) t2
theorem bef_irr {w : List Int} {x y : Int} (hn : w.Nodup) (h : Bef w x y) : ¬ Bef w y x := by
  rintro ⟨c, d, h3, h4⟩
  obtain ⟨a, b, h1, h2⟩ := h
  have g1 : w[a.length]? = some x := by rw [h1]; simp
  have g2 : w[c.length]? = some y := by rw [h3]; simp
  obtain ⟨i, hi⟩ := List.getElem?_of_mem h2
  obtain ⟨j, hj⟩ := List.getElem?_of_mem h4
  have g3 : w[a.length + 1 + i]? = some y := by
    rw [h1, List.getElem?_append_right (by omega), show a.length + 1 + i - a.length = i + 1 by omega, List.getElem?_cons_succ, hi]
  have g4 : w[c.length + 1 + j]? = some x := by
    rw [h3, List.getElem?_append_right (by omega), show c.length + 1 + j - c.length = j + 1 by omega, List.getElem?_cons_succ, hj]
  have q1 := (List.getElem?_inj (List.getElem?_eq_some_iff.mp g1).1 hn).mp (g1.trans g4.symm)
  have q2 := (List.getElem?_inj (List.getElem?_eq_some_iff.mp g2).1 hn).mp (g2.trans g3.symm)
  omega
theorem spot_uniq {w : List Int} {x : Int} {i : Nat} (hn : w.Nodup) (h : w[i]? = some x) : spotOf w x = i := by
  have := (spot_get (List.mem_of_getElem? h)).1
  exact (List.getElem?_inj (List.getElem?_eq_some_iff.mp this).1 hn).mp (this.trans h.symm)
theorem bef_spot {w : List Int} {x y : Int} (hn : w.Nodup) (h : Bef w x y) : spotOf w x < spotOf w y := by
  obtain ⟨a, b, h1, h2⟩ := h
  have g1 : w[a.length]? = some x := by rw [h1]; simp
  obtain ⟨i, hi⟩ := List.getElem?_of_mem h2
  have g3 : w[a.length + 1 + i]? = some y := by
    rw [h1, List.getElem?_append_right (by omega), show a.length + 1 + i - a.length = i + 1 by omega, List.getElem?_cons_succ, hi]
  rw [spot_uniq hn g1, spot_uniq hn g3]
  omega
/-! ### rows without a descent -/
theorem inv_find : ∀ L : List Int, inv L ≠ 0 → ∃ a x y b, L = a ++ x :: y :: b ∧ y < x
  | [], h => absurd rfl h
  | [_], h => absurd rfl h
  | x :: y :: r, h => by
    by_cases c : y < x
    · exact ⟨[], x, y, r, rfl, c⟩
    · by_cases d : inv (y :: r) = 0
      · exfalso
        have hs : (y :: r).Pairwise (· ≤ ·) := by
          clear h c
          have : ∀ l : List Int, inv l = 0 → l.Pairwise (· ≤ ·) := by
            intro l
            induction l with
            | nil => intro _; exact .nil
            | cons u v ih =>
              intro h
              have h' : (v.filter fun z => decide (z < u)).length + inv v = 0 := h
              refine List.pairwise_cons.mpr ⟨fun z hz => ?_, ih (by omega)⟩
              have h0 : v.filter (fun z => decide (z < u)) = [] := List.length_eq_zero_iff.mp (by omega)
              have := List.filter_eq_nil_iff.mp h0 z hz
              simp at this
              exact this
          exact this _ d
        apply h
        refine inv_sorted _ (List.pairwise_cons.mpr ⟨fun z hz => ?_, hs⟩)
        rcases List.mem_cons.mp hz with e | e
        · omega
        · have := (List.pairwise_cons.mp hs).1 z e
          omega
      · obtain ⟨a, u, v, b, e1, e2⟩ := inv_find (y :: r) d
        exact ⟨x :: a, u, v, b, by rw [e1]; rfl, e2⟩
theorem inv_zero : ∀ l : List Int, inv l = 0 → l.Pairwise (· ≤ ·)
  | [], _ => .nil
  | u :: v, h => by
    have h' : (v.filter fun z => decide (z < u)).length + inv v = 0 := h
    refine List.pairwise_cons.mpr ⟨fun z hz => ?_, inv_zero v (by omega)⟩
    have h0 : v.filter (fun z => decide (z < u)) = [] := List.length_eq_zero_iff.mp (by omega)
    have := List.filter_eq_nil_iff.mp h0 z hz
    simp at this
    exact this
/-- rising spots: the same row -/
theorem spots_eq : ∀ (u w : List Int), u.Nodup → w.Nodup → (∀ x, x ∈ u ↔ x ∈ w) → (u.map fun x => ((spotOf w x : Nat) : Int)).Pairwise (· ≤ ·) → u = w
  | [], w, _, _, hm, _ => by
    cases w with
    | nil => rfl
    | cons a r => exact absurd ((hm a).mpr List.mem_cons_self) (by simp)
  | x :: u, w, hu, hw, hm, hs => by
    cases w with
    | nil => exact absurd ((hm x).mp List.mem_cons_self) (by simp)
    | cons y r =>
      obtain ⟨u1, u2⟩ := List.nodup_cons.mp hu
      obtain ⟨r1, r2⟩ := List.nodup_cons.mp hw
      rw [List.map_cons] at hs
      obtain ⟨s1, s2⟩ := List.pairwise_cons.mp hs
      have hxy : x = y := by
        rcases List.mem_cons.mp ((hm y).mpr List.mem_cons_self) with e | e
        · exact e.symm
        · have h1 := s1 _ (List.mem_map.mpr ⟨y, e, rfl⟩)
          have h2 : spotOf (y :: r) y = 0 := by unfold spotOf; rw [if_pos rfl]
          rw [h2] at h1
          have h3 : spotOf (y :: r) x = 0 := by omega
          unfold spotOf at h3
          by_cases c : y = x
          · exact c.symm
          · rw [if_neg c] at h3; omega
      subst hxy
      have hm' : ∀ z, z ∈ u ↔ z ∈ r := fun z => by
        have := hm z
        rw [List.mem_cons, List.mem_cons] at this
        constructor
        · intro h
          rcases this.mp (.inr h) with e | e
          · rw [e] at h; exact absurd h u1
          · exact e
        · intro h
          rcases this.mpr (.inr h) with e | e
          · rw [e] at h; exact absurd h r1
          · exact e
      have e := spots_eq u r u2 r2 hm' (by
        rw [List.pairwise_map] at s2 ⊢
        refine s2.imp_of_mem fun {a b} ha hb h => ?_
        have na : x ≠ a := fun e => u1 (e ▸ ha)
        have nb : x ≠ b := fun e => u1 (e ▸ hb)
        unfold spotOf at h
        rw [if_neg na, if_neg nb] at h
        omega)
      rw [e]
/-! ### exchanges within the forest -/
theorem swap_parts {n : Nat} {o a b : List Int} {x y m : Int} (hm : ∀ z, z ∈ a ++ x :: y :: b ↔ z ∈ o) (hma : m ∉ a) (hb : Btw m x y) : ∀ g ∈ gapsOf (n : Int) (compl n o), tr (part (a ++ y :: x :: b) g.1 g.2) = tr (part (a ++ x :: y :: b) g.1 g.2) := by
  intro g hg
  unfold part
  rw [List.filter_append, List.filter_append, List.filter_cons, List.filter_cons, List.filter_cons, List.filter_cons]
  cases fx : (decide (g.1 < x) && decide (x < g.2)) with
  | false => cases fy : (decide (g.1 < y) && decide (y < g.2)) <;> simp
  | true =>
    cases fy : (decide (g.1 < y) && decide (y < g.2)) with
    | false => simp
    | true =>
      simp only [if_true]
      refine (tr_swap _ _ x y ⟨m, ?_, hb⟩).symm
      simp only [Bool.and_eq_true, decide_eq_true_eq] at fx fy
      have hmr : g.1 < m ∧ m < g.2 := by rcases hb with h | h <;> omega
      have hmo := (gap_ok hg).2.2.2 m hmr.1 hmr.2
      refine List.mem_filter.mpr ⟨?_, by simp [hmr.1, hmr.2]⟩
      have := (hm m).mpr hmo
      rcases List.mem_append.mp this with e | e
      · exact absurd e hma
      · rcases List.mem_cons.mp e with e | e
        · rcases hb with h | h <;> omega
        · rcases List.mem_cons.mp e with e | e
          · rcases hb with h | h <;> omega
          · exact e
/-- a row of orders that holds with each its exchanges holds the whole forest -/
theorem closed {n : Nat} {o : List Int} (hr : ∀ x ∈ o, 0 ≤ x ∧ x < (n : Int)) (S : List Int → Prop)
    (hS : ∀ a x y b, S (a ++ x :: y :: b) → (∃ m, 0 ≤ m ∧ m < (n : Int) ∧ m ∉ a ∧ Btw m x y) → S (a ++ y :: x :: b)) (w : List Int) (hw : w.Nodup) (hwm : ∀ x, x ∈ w ↔ x ∈ o) (hwt : ∀ g ∈ gapsOf (n : Int) (compl n o), tr (part w g.1 g.2) = tr (part o g.1 g.2)) :
    ∀ (k : Nat) (u : List Int), pairs u w ≤ k → S u → u.Nodup → (∀ x, x ∈ u ↔ x ∈ o) → (∀ g ∈ gapsOf (n : Int) (compl n o), tr (part u g.1 g.2) = tr (part o g.1 g.2)) → S w
  | k, u, hk, hu, hun, hum, hut => by
    by_cases c : pairs u w = 0
    · have := spots_eq u w hun hw (fun x => (hum x).trans (hwm x).symm) (inv_zero _ c)
      rw [← this]
      exact hu
    · obtain ⟨a', x', y', b', e, hlt⟩ := inv_find _ c
      obtain ⟨a, r, e1, e2, e3⟩ := List.map_eq_append_iff.mp e
      obtain ⟨x, r2, e4, e5, e6⟩ := List.map_eq_cons_iff.mp e3
      obtain ⟨y, b, e7, e8, e9⟩ := List.map_eq_cons_iff.mp e6
      subst e4
      subst e7
      subst e1
      have hsw : spotOf w y < spotOf w x := by rw [← e5, ← e8] at hlt; omega
      by_cases d : ∃ m, 0 ≤ m ∧ m < (n : Int) ∧ m ∉ a ∧ Btw m x y
      · have hS' := hS a x y b hu d
        obtain ⟨m, _, _, d1, d2⟩ := d
        have hperm : (a ++ y :: x :: b).Perm (a ++ x :: y :: b) := List.Perm.append_left _ (List.Perm.swap x y b)
        have hp : pairs (a ++ x :: y :: b) w = pairs (a ++ y :: x :: b) w + 1 := by
          unfold pairs
          rw [List.map_append, List.map_cons, List.map_cons, List.map_append, List.map_cons, List.map_cons]
          exact inv_swap _ _ _ _ (by omega)
        cases k with
        | zero => omega
        | succ k =>
          exact closed hr S hS w hw hwm hwt k _ (by omega) hS' (hperm.nodup_iff.mpr hun) (fun z => by rw [hperm.mem_iff]; exact hum z) fun g hg => by
            rw [swap_parts hum d1 d2 g hg]
            exact hut g hg
      · exfalso
        have hxo : x ∈ o := (hum x).mp (by simp)
        have hyo : y ∈ o := (hum y).mp (by simp)
        have hxr := hr x hxo
        have hyr := hr y hyo
        obtain ⟨g, hg, hgx⟩ := gap_cover hxr.1 hxr.2 hxo
        obtain ⟨g1, g2, g3, g4⟩ := gap_ok hg
        have hxy : x ≠ y := by
          intro q
          subst q
          omega
        have noB : ∀ m, 0 ≤ m → m < (n : Int) → m ∉ a → ¬ Btw m x y := fun m h1 h2 h3 h4 => d ⟨m, h1, h2, h3, h4⟩
        have hgm : ∀ z, z ∈ [g.1, g.2] → 0 ≤ z → z < (n : Int) → z ∉ o := by
          intro z hz h1 h2 h3
          have he : g.1 ∈ ends (n : Int) (compl n o) ∧ g.2 ∈ ends (n : Int) (compl n o) := by
            rw [gapsOf_eq] at hg
            exact pairsOf_mem hg
          have hz' : z ∈ ends (n : Int) (compl n o) := by
            simp at hz
            rcases hz with e | e
            · rw [e]; exact he.1
            · rw [e]; exact he.2
          unfold ends at hz'
          rcases List.mem_append.mp hz' with e | e
          · rcases List.mem_append.mp e with e | e
            · simp at e; omega
            · exact (mem_compl.mp e).2 h3
          · simp at e; omega
        have ha : ∀ z, z ∈ a → z ∈ o := fun z hz => (hum z).mp (by simp [hz])
        have hgy : g.1 < y ∧ y < g.2 := by
          constructor
          · by_cases q : g.1 < y
            · exact q
            · exfalso
              have hne : y ≠ g.1 := fun e => hgm g.1 (by simp) (by omega) (by omega) (e ▸ hyo)
              exact noB g.1 (by omega) (by omega) (fun m => hgm g.1 (by simp) (by omega) (by omega) (ha _ m)) (.inr ⟨by omega, hgx.1⟩)
          · by_cases q : y < g.2
            · exact q
            · exfalso
              have hne : y ≠ g.2 := fun e => hgm g.2 (by simp) (by omega) (by omega) (e ▸ hyo)
              exact noB g.2 (by omega) (by omega) (fun m => hgm g.2 (by simp) (by omega) (by omega) (ha _ m)) (.inl ⟨hgx.2, by omega⟩)
        have hpu : part (a ++ x :: y :: b) g.1 g.2 = part a g.1 g.2 ++ x :: y :: part b g.1 g.2 := by
          unfold part
          rw [List.filter_append, List.filter_cons, List.filter_cons]
          simp [hgx.1, hgx.2, hgy.1, hgy.2]
        have hbef : Bef (part w g.1 g.2) x y := by
          refine below (part b g.1 g.2) (part a g.1 g.2) x y _ (by rw [← hpu]; exact hun.filter _) (fun m hm => ?_) (by rw [← hpu, hut g hg, hwt g hg])
          have hm' := mem_part.mp hm
          have hmo := (hum m).mp (by simp [hm'.1])
          refine noB m (hr m hmo).1 (hr m hmo).2 fun q => ?_
          obtain ⟨_, _, n3⟩ := List.nodup_append.mp hun
          exact n3 m q m (by simp [hm'.1]) rfl
        have := bef_spot hw (bef_filter hbef)
        omega
/-! ### the law's count of pairs -/
theorem inv_snoc (x : Int) : ∀ L : List Int, inv (L ++ [x]) = inv L + (L.filter fun y => decide (x < y)).length
  | [] => rfl
  | y :: L => by
    show ((L ++ [x]).filter fun z => decide (z < y)).length + inv (L ++ [x]) = (L.filter fun z => decide (z < y)).length + inv L + ((y :: L).filter fun z => decide (x < z)).length
    rw [inv_snoc x L, List.filter_append, List.length_append, List.filter_cons (x := y)]
    by_cases c : x < y
    · rw [if_pos (decide_eq_true c), List.length_cons]
      have : ([x].filter fun z => decide (z < y)).length = 1 := by simp [c]
      omega
    · rw [if_neg (by simpa using c)]
      have : ([x].filter fun z => decide (z < y)).length = 0 := by simp [c]
      omega
def pairsAt (L : List Int) (k : Nat) : Nat := ((L.take k).filter fun y => decide (L.getD k 0 < y)).length
theorem pairs_law (L : List Int) : ∀ m : Nat, m ≤ L.length → ((List.range m).map (pairsAt L)).sum = inv (L.take m)
  | 0, _ => rfl
  | m + 1, h => by
    have ih := pairs_law L m (by omega)
    have e : L.take (m + 1) = L.take m ++ [L.getD m 0] := get_snoc (getD_of (by omega))
    rw [List.range_succ, List.map_append, List.sum_append, ih, e, inv_snoc]
    simp [pairsAt]
end Sl
/-! SlL1 -/
namespace Sl
open PySem PySem.Spec PyProof.Rows L2
/-! ### the law's draws -/
def dL (l c a : Int) : List (Key × V) := [(.inr "left", .int l), (.inr "cell", .int c), (.inr "at", .int a)]
theorem dL_left (l c a : Int) : valV (dL l c a) (.inr "left") = some (.int l) := rfl
theorem dL_cell (l c a : Int) : valV (dL l c a) (.inr "cell") = some (.int c) := rfl
theorem dL_at (l c a : Int) : valV (dL l c a) (.inr "at") = some (.int a) := rfl
theorem dL_putL (l c a v : Int) : putK (dL l c a) (.inr "left") (.int v) = dL v c a := rfl
theorem dL_putA (l c a v : Int) : putK (dL l c a) (.inr "at") (.int v) = dL l c v := rfl
/-- the draw at d, its count at most N -/
def DrawAt (H : Hp) (d : Addr) (N : Nat) : Prop := ∃ l c a : Int, H d = some (.dK (dL l c a)) ∧ 0 ≤ a ∧ a ≤ (N : Int)
theorem DrawAt.same {H H' : Hp} {d : Addr} {N : Nat} (h : DrawAt H d N) (e : Same H H') : DrawAt H' d N := by
  obtain ⟨l, c, a, h1, h2⟩ := h
  exact ⟨l, c, a, e _ _ h1, h2⟩
theorem DrawAt.up {H : Hp} {d : Addr} {N M : Nat} (h : DrawAt H d N) (e : N ≤ M) : DrawAt H d M := by
  obtain ⟨l, c, a, h1, h2, h3⟩ := h
  exact ⟨l, c, a, h1, h2, by omega⟩
theorem DrawAt.get {H : Hp} {d : Addr} {N : Nat} (h : DrawAt H d N) : ∃ kv, H d = some (.dK kv) := by
  obtain ⟨l, c, a, h1, _⟩ := h
  exact ⟨_, h1⟩
theorem sc_Lbegun : FnScope ["_law_script", "_law_k", "_law_some", "_law_found", "_law_cell", "_law_left"] ["_law_script", "_law_k"] (defScope s_Lbegun) := ⟨rfl, rfl, rfl, by decide +kernel, rfl, by decide +kernel, by decide +kernel⟩
theorem bd_Lbegun : Bnd d_Lbegun ["_law_script", "_law_k"] := fun _ _ _ _ _ _ us hl => match us, hl with | [_, _], _ => rfl
theorem sc_Ltake : FnScope ["_law_draw", "_law_edge", "_law_found", "_law_k", "_law_prime", "_law_mixed"] ["_law_draw", "_law_edge"] (defScope s_Ltake) := ⟨rfl, rfl, rfl, by decide +kernel, rfl, by decide +kernel, by decide +kernel⟩
theorem bd_Ltake : Bnd d_Ltake ["_law_draw", "_law_edge"] := fun _ _ _ _ _ _ us hl => match us, hl with | [_, _], _ => rfl
theorem sc_Lof : FnScope ["_law_draw", "_law_some"] ["_law_draw", "_law_some"] (defScope s_Lof) := ⟨rfl, rfl, rfl, by decide +kernel, rfl, by decide +kernel, by decide +kernel⟩
theorem bd_Lof : Bnd d_Lof ["_law_draw", "_law_some"] := fun _ _ _ _ _ _ us hl => match us, hl with | [_, _], _ => rfl
theorem sc_Lletters : FnScope ["_law_draw", "_law_many", "_law_start", "_law_stride", "_law_k"] ["_law_draw", "_law_many"] (defScope s_Lletters) := ⟨rfl, rfl, rfl, by decide +kernel, rfl, by decide +kernel, by decide +kernel⟩
theorem bd_Lletters : Bnd d_Lletters ["_law_draw", "_law_many"] := fun _ _ _ _ _ _ us hl => match us, hl with | [_, _], _ => rfl
theorem sc_Lword : FnScope ["_law_draw", "_law_some", "_law_many", "_law_k"] ["_law_draw", "_law_some", "_law_many"] (defScope s_Lword) := ⟨rfl, rfl, rfl, by decide +kernel, rfl, by decide +kernel, by decide +kernel⟩
theorem bd_Lword : Bnd d_Lword ["_law_draw", "_law_some", "_law_many"] := fun _ _ _ _ _ _ us hl => match us, hl with | [_, _, _], _ => rfl
theorem sc_Lbook : FnScope ["_law_draw", "_law_some", "_law_found", "_law_turn", "_law_ahead", "_law_behind"] ["_law_draw", "_law_some"] (defScope s_Lbook) := ⟨rfl, rfl, rfl, by decide +kernel, rfl, by decide +kernel, by decide +kernel⟩
theorem bd_Lbook : Bnd d_Lbook ["_law_draw", "_law_some"] := fun _ _ _ _ _ _ us hl => match us, hl with | [_, _], _ => rfl
def spBegun (K : PySem.W.Frag) : Sp := fun vs H Q _ => ∃ (p : Addr) (ns : List Int) (k : Int), vs = [.ref p, .int k] ∧ SqL K H p (ns.map V.int) ∧ ns.length ≤ 63 ∧ 0 ≤ k ∧ k ≤ 10 ∧
  ∀ d H', Same H H' → H d = none → DrawAt H' d 600 → Q (.ref d) H'
def spTake (K : PySem.W.Frag) : Sp := fun vs H Q _ => ∃ (d : Addr) (e : Int) (N : Nat), vs = [.ref d, .int e] ∧ DrawAt H d N ∧ N ≤ 100000 ∧ 0 < e ∧ e.natAbs < 2 ^ 900 ∧ ∀ r H', But [d] H H' → DrawAt H' d (N + 1) → 0 ≤ r → r < e → Q (.int r) H'
def spOf (K : PySem.W.Frag) : Sp := fun vs H Q _ => ∃ (d l : Addr) (xs : List V) (N : Nat), vs = [.ref d, .ref l] ∧ DrawAt H d N ∧ N ≤ 100000 ∧ SqL K H l xs ∧ xs ≠ [] ∧ xs.length ≤ 1000 ∧ ∀ (i : Nat) x H', But [d] H H' → DrawAt H' d (N + 1) → xs[i]? = some x → Q x H'
section
variable {W : Wd} (Z : Hd W)
include Z
theorem ok__law_take : Cal W 1 "_law_take" ["_law_draw", "_law_edge"] (spTake W.K) := by
  refine cal_mk (d := d_Ltake) Z.g_law_take Z.d_Ltake sc_Ltake bd_Ltake (fun vs H Q E h => ?_) fun f cdv A outer s H vs Q E hr h => ?_
  · obtain ⟨_, _, _, rfl, _⟩ := h; rfl
  obtain ⟨d, e, N, rfl, hd, hN, he, he2, k⟩ := h
  refine ⟨_, pss_cons (ps_if (pt_cmpR op_gt (pe_dget (hu_of hr) (pv 0) pe_str (fun _ _ => rfl)) pe_int (nomark _)) (pss_cons (ps_set (i := 2) sc_Ltake.nd rfl (Or.inl rfl) (pe_op op_mod (pe_dget (hu_of hr) (pv 0) pe_str (fun _ _ => rfl)) (pv 1)))
      (pss_cons (ps_dput (hu_of hr) (pv 0) pe_str (pe_op op_fdivW (pe_dget (hu_of hr) (pv 0) pe_str (fun _ _ => rfl)) (pv 1)) (by rfl))
      (pss_one (ps_ret (pv 2))))) pss_nil)
      (pss_cons (ps_set (i := 3) sc_Ltake.nd rfl (Or.inl rfl) (pe_op op_add (pe_dget (hu_of hr) (pv 0) pe_str (fun _ _ => rfl)) pe_int))
      (pss_cons (ps_dput (hu_of hr) (pv 0) pe_str (pv 3) (by rfl))
      (pss_cons (ps_set (i := 4) sc_Ltake.nd rfl (Or.inl rfl) (pe_ix (k_ix_list W.K) (pe_lst (pa_cons pe_int (pa_cons pe_int (pa_cons pe_int (pa_cons pe_int (pa_cons pe_int pa_nil)))))) (pe_op op_mod (pv 3) pe_int) (fun _ _ => rfl)))
      (pss_cons (ps_set (i := 5) sc_Ltake.nd rfl (Or.inl rfl) (pe_op op_mod (pe_op op_mulW (pe_op op_add (pe_op op_add (pe_op op_add (pe_op op_mod (pe_dget (hu_of hr) (pv 0) pe_str (fun _ _ => rfl)) (pv 4)) (pe_op op_mulW (pe_op op_mulW pe_int (pv 3)) (pv 3))) (pe_op op_mulW pe_int (pv 3))) pe_int) pe_int) (pv 4)))
      (pss_one (ps_ret (pe_op op_mod (pe_op op_mod (pe_op op_mulW (pv 5) (pe_op op_add (pe_op op_mod (pv 5) pe_int) pe_int)) pe_int) (pv 1)))))))), ?_⟩
  obtain ⟨l, c, a, hd, ha, ha2⟩ := hd
  have gl : ∀ {H : Hp}, H d = some (.dK (dL l c a)) → DGet H d (.str "left") (some (.int l)) := fun h => DGet.k (k := .inr "left") h
  have len3 : ∀ l c a : Int, (dL l c a).length < sizeLine := fun _ _ _ => by show 3 < sizeLine; decide
  refine ⟨_, rfl, d, .int l, rfl, gl hd, _, _, rfl, rfl, _, rfl, ite2 (fun _ => ?_) (fun _ => ?_)⟩
  · refine ⟨_, rfl, d, .int l, rfl, gl hd, _, rfl, _, _, rfl, rfl, he, ?_⟩
    refine ⟨_, rfl, d, .int l, rfl, gl hd, _, rfl, _, _, rfl, rfl, wide_div he he2 (by decide) (by decide), _, rfl, d, _, rfl, DPut.k (k := .inr "left") hd (len3 _ _ _), ?_⟩
    refine ⟨_, rfl, k _ _ (But.put ((Same.refl H).but _) List.mem_cons_self) ⟨l / e, c, a, ?_, ha, by omega⟩ (Int.emod_nonneg _ (by omega)) (Int.emod_lt_of_pos _ he)⟩
    rw [upd_same]
    rfl
  · have ga : DGet H d (.str "at") (some (.int a)) := DGet.k (k := .inr "at") hd
    refine ⟨_, rfl, d, .int a, rfl, ga, _, _, rfl, rfl, ?_⟩
    refine ⟨_, rfl, _, rfl, d, _, rfl, DPut.k (k := .inr "at") hd (len3 _ _ _), ?_⟩
    have hd1 : upd H d (.dK (putK (dL l c a) (.inr "at") (.int (a + 1)))) d = some (.dK (dL l c (a + 1))) := by rw [upd_same]; rfl
    have b1 : But [d] H (upd H d (.dK (putK (dL l c a) (.inr "at") (.int (a + 1))))) := But.put ((Same.refl H).but _) List.mem_cons_self
    generalize hH1 : upd H d (.dK (putK (dL l c a) (.inr "at") (.int (a + 1)))) = H1 at hd1 b1
    rw [show (Sum.inr "at" : Key) = Sum.inr (Str.ofString "at") from rfl] at hH1
    obtain ⟨p, hp, hp1, hp2⟩ : ∃ p : Int, atI [V.int 2147483629, V.int 2147483587, V.int 2147483579, V.int 2147483563, V.int 2147483549] ((a + 1) % 5) = some (V.int p) ∧ 2147483549 ≤ p ∧ p ≤ 2147483629 := by
      have : (a + 1) % 5 = 0 ∨ (a + 1) % 5 = 1 ∨ (a + 1) % 5 = 2 ∨ (a + 1) % 5 = 3 ∨ (a + 1) % 5 = 4 := by omega
      rcases this with e | e | e | e | e <;> rw [e] <;> exact ⟨_, rfl, by decide, by decide⟩
    refine ⟨by show 5 ≤ sizeLine; decide, fun q hq => ⟨_, rfl, _, _, rfl, rfl, (by show (0 : Int) < 5; decide), q, _, _, _, rfl, rfl, SqL.of upd_same, hp, ?_⟩⟩
    have n2 := same_new hq (.lst [V.int 2147483629, V.int 2147483587, V.int 2147483579, V.int 2147483563, V.int 2147483549])
    have hd2 := n2 _ _ hd1
    have b2 := b1.seq n2
    generalize upd H1 q (.lst [V.int 2147483629, V.int 2147483587, V.int 2147483579, V.int 2147483563, V.int 2147483549]) = H2 at hd2 b2
    have gc : DGet H2 d (.str "cell") (some (.int c)) := DGet.k (k := .inr "cell") hd2
    have hp0 : (0 : Int) < p := by omega
    have hk : (a + 1).natAbs < 2 ^ 20 := by show _ < 1048576; omega
    have h1 : (7919 : Int).natAbs < 2 ^ 20 := by decide
    have hX := wide_lt (wide_lt h1 hk) hk
    have hX' : (7919 * (a + 1) * (a + 1)).natAbs < 1152921504606846976 := hX
    have hm0 := Int.emod_nonneg c (show p ≠ 0 by omega)
    have hm1 := Int.emod_lt_of_pos c hp0
    have big : ∀ x : Int, x.natAbs < 4611686018427387904 → x.natAbs < 2 ^ 62 := fun x h => h
    refine ⟨_, rfl, d, .int c, rfl, gc, _, rfl, _, _, rfl, rfl, hp0, _, rfl, _, _, rfl, rfl, wide_mul h1 hk (by decide) (by decide) (by decide), _, rfl, _, _, rfl, rfl, wide_mul (wide_lt h1 hk) hk (by decide) (by decide) (by decide), _, _, rfl, rfl,
      _, rfl, _, _, rfl, rfl, wide_mul (a := 20) (by decide) hk (by decide) (by decide) (by decide), _, _, rfl, rfl, _, _, rfl, rfl, _, _, rfl, rfl, wide_mul (a := 62) (b := 62) (big _ (by omega)) (by decide) (by decide) (by decide) (by decide), _, rfl, _, _, rfl, rfl, hp0, ?_⟩
    generalize hM : (c % p + 7919 * (a + 1) * (a + 1) + 31 * (a + 1) + 17) * 48271 % p = m
    have q0 : 0 ≤ m := by rw [← hM]; exact Int.emod_nonneg _ (by omega)
    have q1 : m < p := by rw [← hM]; exact Int.emod_lt_of_pos _ hp0
    refine ⟨_, rfl, _, rfl, _, _, rfl, rfl, (by show (0 : Int) < 65521; decide), _, _, rfl, rfl, _, _, rfl, rfl, wide_mul (a := 62) (b := 62) (big _ (by omega)) (big _ (by have := Int.emod_nonneg m (show (65521 : Int) ≠ 0 by decide); have := Int.emod_lt_of_pos m (show (0 : Int) < 65521 by decide); omega)) (by decide) (by decide) (by decide), _, _, rfl, rfl, (by show (0 : Int) < 2147483647; decide), _, rfl, _, _, rfl, rfl, he, ?_⟩
    exact k _ _ b2 ⟨l, c, a + 1, hd2, by omega, by omega⟩ (Int.emod_nonneg _ (by omega)) (Int.emod_lt_of_pos _ he)
theorem ok__law_of : Cal W 2 "_law_of" ["_law_draw", "_law_some"] (spOf W.K) := by
  refine cal_mk (d := d_Lof) Z.g_law_of Z.d_Lof sc_Lof bd_Lof (fun vs H Q E h => ?_) fun f cdv A outer s H vs Q E hr h => ?_
  · obtain ⟨_, _, _, _, rfl, _⟩ := h; rfl
  obtain ⟨d, l, xs, N, rfl, hd, hN, hl, hne, hlen, k⟩ := h
  refine ⟨_, pss_one (ps_ret (pe_ix (k_ix_list W.K) (pv 1) (pe_cal (ok__law_take Z) (hr.mono (by decide)) (pa_cons (pv 0) (pa_cons (pe_callB (k_len_seq W.K) (by rfl) Z.m_len (by decide +kernel) (pa_cons (pv 1) pa_nil)) pa_nil))) (fun _ _ => rfl))), ?_⟩
  have hpos : 0 < xs.length := List.length_pos_iff.mpr hne
  obtain ⟨kv, hdk⟩ := hd.get
  refine ⟨_, rfl, _, rfl, _, rfl, l, xs, rfl, .inl hl, d, (xs.length : Nat), N, rfl, hd, hN, by omega, Nat.lt_of_le_of_lt (by rw [Int.natAbs_natCast]; exact hlen) (Nat.lt_of_lt_of_le (by decide : 1000 < 2 ^ 10) (Nat.pow_le_pow_right (by decide) (by decide))), fun r H1 b1 d1 h0 h1 => ?_⟩
  have hl1 : SqL W.K H1 l xs := by
    rcases hl with (h | ⟨o, h⟩) | h
    · exact .inl (.inl (b1 _ _ (by simp; intro e; rw [e, hdk] at h; cases h) h))
    · exact .inl (.inr ⟨o, b1 _ _ (by simp; intro e; rw [e, hdk] at h; cases h) h⟩)
    · exact .inr h
  have hget : atI xs r = some (xs[r.toNat]'(by omega)) := by
    have := atI_nat (xs := xs) (j := r.toNat) (v := xs[r.toNat]'(by omega)) (List.getElem?_eq_getElem (by omega))
    rwa [show ((r.toNat : Nat) : Int) = r by omega] at this
  refine ⟨l, xs, r, _, rfl, rfl, hl1, hget, k r.toNat _ H1 b1 d1 (List.getElem?_eq_getElem (by omega))⟩
theorem ok__law_begun : Cal W 1 "_law_begun" ["_law_script", "_law_k"] (spBegun W.K) := by
  refine cal_mk (d := d_Lbegun) Z.g_law_begun Z.d_Lbegun sc_Lbegun bd_Lbegun (fun vs H Q E h => ?_) fun f cdv A outer s H vs Q E hr h => ?_
  · obtain ⟨_, _, _, rfl, _⟩ := h; rfl
  obtain ⟨p, ns, k0, rfl, hp, hl, hk0, hk1, k⟩ := h
  refine ⟨_, pss_cons (ps_par (i := 2) (j := 3) (by rfl) sc_Lbegun.nd rfl rfl (by decide) rfl rfl (pa_cons (pe_slStep (pv 0) (pv 1) pe_int) (pa_cons pe_int pa_nil)) (by rfl))
      (pss_cons (ps_for PassesOwn.never rfl (k_list W.K (pv 2)) (pg_name (i := 4) sc_Lbegun.nd rfl (Or.inl rfl)) (pss_one (ps_set (i := 3) sc_Lbegun.nd rfl (Or.inl rfl) (pe_op op_mod (pe_op op_add (pe_op op_mulW (pv 3) pe_int) (pv 4)) pe_int))))
      (pss_cons (ps_set (i := 5) sc_Lbegun.nd rfl (Or.inl rfl) (pe_ifExp (PW.pt (pw_and (pt_cmpR (k_op_neD W.K hr.units) (pv 2) (pe_lst pa_nil) (nomark _)) (pw_and1 (pt_cmpR op_ge (pe_ix (k_ix_list W.K) (pv 2) pe_int (fun _ _ => rfl)) (pe_op op_pow pe_int pe_int) (nomark _))))) (pe_ix (k_ix_list W.K) (pv 2) pe_int (fun _ _ => rfl)) pe_int))
      (pss_one (ps_ret (pe_disp (pps_cons pe_str (pv 5) (pps_cons pe_str (pv 3) (pps_cons pe_str (pe_op op_mulW pe_int (pv 1)) pps_nil))) (by rfl) (by rfl) (fun z => by cases z) (by decide)))))), ?_⟩
  refine ⟨_, rfl, _, rfl, p, ns, k0, 7, rfl, rfl, rfl, by decide, hp, fun ms q hml hq => ⟨_, _, rfl, ?_⟩⟩
  have g1 := same_new hq (.lst (ms.map V.int))
  have hq1 : upd H q (.lst (ms.map V.int)) q = _ := upd_same
  generalize upd H q (.lst (ms.map V.int)) = H1 at g1 hq1
  refine ⟨_, rfl, q, rfl, ⟨_, SqL.of hq1⟩, for_list (xs := ms.map V.int) (fun i σ H' => ∃ (f : Int) (w : Option V), σ = [some (.ref p), some (.int k0), some (.ref q), some (.int f), w, none] ∧ Same H1 H' ∧ f.natAbs < 2 ^ 160) ⟨7, _, rfl, Same.refl _, by decide⟩ (fun i σ H' _ w => ?_) (fun i x σ H' hx w => ?_) (fun σ H' w => ?_)⟩
  · obtain ⟨_, _, _, g, _⟩ := w
    exact g.seq (SqL.of hq1)
  · obtain ⟨f, w, rfl, g, hf⟩ := w
    obtain ⟨x, _, rfl⟩ := mapI hx
    refine ⟨_, rfl, _, _, rfl, rfl, wide_mul (a := 160) (b := 50) hf (by decide) (by decide) (by decide) (by decide), _, rfl, _, _, rfl, rfl, _, _, rfl, rfl, (by show (0 : Int) < 45671919084464375650470121801725774452702282179; decide), _, _, rfl, g, ?_⟩
    have h0 := Int.emod_nonneg (f * 1000000000039 + x) (show (45671919084464375650470121801725774452702282179 : Int) ≠ 0 by decide)
    have h1 := Int.emod_lt_of_pos (f * 1000000000039 + x) (show (0 : Int) < 45671919084464375650470121801725774452702282179 by decide)
    show ((f * 1000000000039 + x) % 45671919084464375650470121801725774452702282179).natAbs < 1461501637330902918203684832716283019655932542976
    omega
  · obtain ⟨f, w, rfl, g, hf⟩ := w
    have hq2 := g _ _ hq1
    have g12 := g1.trans g
    have fin : ∀ (l : Int) (H2 : Hp), Same H H2 → tRet (tDisp [(tC (V.str (Str.ofString "left")), tVar 5), (tC (V.str (Str.ofString "cell")), tVar 3), (tC (V.str (Str.ofString "at")), tOp (rI CMulW fun i j => V.int (i * j)) (tC (V.int 60)) (tVar 1))]) { nx := fun x H' => Q V.non H', rt := Q }
        [some (.ref p), some (.int k0), some (.ref q), some (.int f), w, some (.int l)] H2 := fun l H2 g2 => by
      refine fun d hd => ⟨_, rfl, _, rfl, _, rfl, _, _, rfl, rfl, wide_mul (a := 10) (b := 10) (by decide) (by show _ < 1024; omega) (by decide) (by decide) (by decide), upd_same, dL l f (60 * k0), rfl, by show 3 ≤ 15; decide, ?_⟩
      rw [upd_upd]
      exact k d _ (g2.trans (same_new hd _)) (same_free g2 hd) ⟨l, f, 60 * k0, by rw [upd_same]; rfl, by omega, by omega⟩
    refine ⟨_, rfl, by show 0 ≤ sizeLine; decide, fun e he => ?_⟩
    have ge := same_new he (.lst [])
    refine ⟨_, _, dp_lI (SqL.of (ge _ _ hq2)), dp_l0 upd_same, shaped_lI _, shaped_lI _, _, rfl, ?_⟩
    rw [eqv_lI]
    cases ms with
    | nil => exact iteF (fin 0 _ (g12.trans ge))
    | cons x r =>
      refine iteT ?_
      have h0 : atI ((x :: r).map V.int) 0 = some (.int x) := atI_nat (xs := (x :: r).map V.int) (j := 0) (v := .int x) rfl
      refine ⟨_, rfl, q, _, _, _, rfl, rfl, SqL.of (ge _ _ hq2), h0, _, _, rfl, rfl, ⟨by decide, by decide, by decide⟩, _, _, rfl, rfl, _, rfl, ite2 (fun _ => ?_) (fun _ => ?_)⟩
      · exact ⟨_, rfl, q, _, _, _, rfl, rfl, SqL.of (ge _ _ hq2), h0, fin x _ (g12.trans ge)⟩
      · exact fin 0 _ (g12.trans ge)
end
/-! ### letters, words, books -/
theorem alpha_at {r : Int} (h0 : 0 ≤ r) (h1 : r < 26) : atI ("abcdefghijklmnopqrstuvwxyz" : Str).cps.toList r = some (97 + r.toNat) := by
  have key : ∀ n : Nat, n < 26 → ("abcdefghijklmnopqrstuvwxyz" : Str).cps.toList[n]? = some (97 + n) := by decide +kernel
  have := atI_nat (key r.toNat (by omega))
  rwa [show ((r.toNat : Nat) : Int) = r by omega] at this
def sgs (cs : List Nat) : List V := cs.map fun c => V.str (sg c)
theorem sgs_at {cs : List Nat} {i : Nat} {x : V} (h : (sgs cs)[i]? = some x) : ∃ c, cs[i]? = some c ∧ x = .str (sg c) := by
  unfold sgs at h
  rw [List.getElem?_map] at h
  cases q : cs[i]? with
  | none => rw [q] at h; cases h
  | some c => rw [q] at h; cases h; exact ⟨c, rfl, rfl⟩
theorem join_sg : ∀ cs : List Nat, (Txt.join "" (cs.map sg)).cps.toList = cs := by
  intro cs
  have e : ∀ l : List Str, Txt.join "" l = Str.join "" l := fun l => StrLaws.glued_eq_join "" l
  rw [e]
  have em : ("" : Str).cps = #[] := by decide +kernel
  induction cs with
  | nil => rfl
  | cons c r ih =>
    cases r with
    | nil => rfl
    | cons d r =>
      have h : (Str.join "" ((c :: d :: r).map sg)).cps = (sg c).cps ++ ("" : Str).cps ++ (Str.join "" ((d :: r).map sg)).cps := rfl
      rw [h, em, Array.toList_append, Array.toList_append, ih]
      rfl
def spLetters (K : PySem.W.Frag) : Sp := fun vs H Q _ => ∃ (d : Addr) (many N : Nat), vs = [.ref d, .int (many : Nat)] ∧ DrawAt H d N ∧ N ≤ 50000 ∧ many ≤ 26 ∧
  ∀ (cs : List Nat) l H', But [d] H H' → DrawAt H' d (N + 2) → H' l = some (.lst (sgs cs)) → H l = none → cs.length = many → (∀ c ∈ cs, isLet c) → (∀ a b, cs = [a, b] → a ≠ b) → Q (.ref l) H'
def spWord (K : PySem.W.Frag) : Sp := fun vs H Q _ => ∃ (d l : Addr) (cs : List Nat) (many N : Nat), vs = [.ref d, .ref l, .int (many : Nat)] ∧ DrawAt H d N ∧ N ≤ 50000 ∧ many ≤ 100 ∧ H l = some (.lst (sgs cs)) ∧ cs ≠ [] ∧ cs.length ≤ 26 ∧ (∀ c ∈ cs, isLet c) ∧
  ∀ (z : Str) H', But [d] H H' → DrawAt H' d (N + many) → GoodW z → z.cps.size = many → Q (.str z) H'
def spBook (K : PySem.W.Frag) : Sp := fun vs H Q _ => ∃ (d l : Addr) (cs : List Nat) (N : Nat), vs = [.ref d, .ref l] ∧ DrawAt H d N ∧ N ≤ 50000 ∧ H l = some (.lst (sgs cs)) ∧ cs ≠ [] ∧ cs.length ≤ 26 ∧ (∀ c ∈ cs, isLet c) ∧
  ∀ p xs rs H', But [d] H H' → DrawAt H' d (N + 41) → BookAt K H' p xs rs → (∀ r ∈ rs, GoodR r) → rs.length ≤ 10 → Q (.ref p) H'
section
variable {W : Wd} (Z : Hd W)
include Z
theorem ok__law_letters : Cal W 3 "_law_letters" ["_law_draw", "_law_many"] (spLetters W.K) := by
  refine cal_mk (d := d_Lletters) Z.g_law_letters Z.d_Lletters sc_Lletters bd_Lletters (fun vs H Q E h => ?_) fun f cdv A outer s H vs Q E hr h => ?_
  · obtain ⟨_, _, _, rfl, _⟩ := h; rfl
  obtain ⟨d, many, N, rfl, hd, hN, hm, k⟩ := h
  refine ⟨_, pss_cons (ps_asg (pe_tup (pa_cons (pe_cal (ok__law_take Z) (hr.mono (by decide)) (pa_cons (pv 0) (pa_cons pe_int pa_nil))) (pa_cons (pe_cal (ok__law_of Z) (hr.mono (by decide)) (pa_cons (pv 0) (pa_cons (pe_lst (pa_cons pe_int (pa_cons pe_int (pa_cons pe_int (pa_cons pe_int (pa_cons pe_int (pa_cons pe_int pa_nil))))))) pa_nil))) pa_nil))) (pg_tup rfl (pgs_cons (pg_name (i := 2) sc_Lletters.nd rfl (Or.inr rfl)) (pgs_cons (pg_name (i := 3) sc_Lletters.nd rfl (Or.inr rfl)) pgs_nil))))
      (pss_one (ps_ret (pe_lc (own := [("_law_k", 4)]) (g := gName 4) rfl sc_Lletters.nd (pi_range1 (by rfl) Z.m_range (pa_cons (pv 1) pa_nil)) (blkOk_by (own := [("_law_k", 4)]) (N := ["_law_draw", "_law_many", "_law_start", "_law_stride", "_law_k"]) (sc := defScope s_Lletters) (by decide +kernel)) (fun _ _ _ _ _ => pg_name (i := 4) sc_Lletters.nd rfl (Or.inl rfl)) (fun _ _ _ _ _ => pts_nil) (fun _ _ _ _ _ => (pe_ix ix_str pe_str (pe_op op_mod (pe_op op_add (pv 2) (pe_op op_mul (pv 3) (pv 4))) pe_int) (fun _ _ => rfl)))))), ?_⟩
  refine ⟨_, rfl, d, 26, N, rfl, hd, by omega, by decide, by decide +kernel, fun s0 H1 b1 d1 q0 q1 => ?_⟩
  refine ⟨_, rfl, by show 6 ≤ sizeLine; decide, fun l0 hl0 => ⟨d, l0, _, N + 1, rfl, d1.same (same_new hl0 _), by omega, SqL.of upd_same, by simp, by show 6 ≤ 1000; decide, fun i x H2 b2 d2 hx => ?_⟩⟩
  obtain ⟨st, hst, rfl⟩ := mapI (ns := [1, 3, 5, 7, 9, 11]) hx
  have hst2 : st = 1 ∨ st = 3 ∨ st = 5 ∨ st = 7 ∨ st = 9 ∨ st = 11 := by
    have := List.mem_of_getElem? hst
    simpa using this
  refine ⟨by show 2 ≤ sizeLine; decide, fun t ht => ⟨t, _, rfl, SqT.of upd_same, rfl, _, _, rfl, _, _, rfl, rfl, ?_⟩⟩
  have b3 : But [d] H (upd H2 t (.tup [.int s0, .int st])) := But.new (fun c o hc q => b2 c o hc (same_new hl0 _ c o (b1 c o hc q))) ht
  have d3 := d2.same (same_new ht (.tup [.int s0, .int st]))
  generalize upd H2 t (.tup [.int s0, .int st]) = H3 at b3 d3
  refine ⟨_, rfl, _, rfl, by omega, by omega, fun D hD => ?_⟩
  have hd0 : D ≠ d := fun e => by obtain ⟨kv, hk⟩ := d3.get; rw [e, hk] at hD; cases hD
  refine lcF_range (fun _ => true) (fun i => .str (sg (97 + ((s0 + st * i) % 26).toNat))) hD (by omega) (fun i hi H4 R N' g4 hR _ => ?_) (fun H4 g4 hD4 => ?_)
  · have e0 := Int.emod_nonneg (s0 + st * (0 + (i : Nat))) (show (26 : Int) ≠ 0 by decide)
    have e1 := Int.emod_lt_of_pos (s0 + st * (0 + (i : Nat))) (show (0 : Int) < 26 by decide)
    exact ⟨rfl, _, rfl, _, rfl, _, rfl, _, _, rfl, rfl, .inl (by omega), _, _, rfl, rfl, _, _, rfl, rfl, (by show (0 : Int) < 26; decide), _, _, _, rfl, rfl, by decide, alpha_at e0 e1, hR rfl _ (Same.refl _)⟩
  · rw [filter_tt] at hD4
    refine k ((fromTo 0 many).map fun i => 97 + ((s0 + st * i) % 26).toNat) D H4 (b3.seq g4) ((d3.same g4).up (by omega)) (by rw [hD4]; unfold sgs; rw [List.map_map]; rfl) (But.free b3 (by simpa using hd0) hD) (by rw [List.length_map, fromTo_len]) (fun c hc => ?_) (fun a b hab => ?_)
    · obtain ⟨i, _, rfl⟩ := List.mem_map.mp hc
      have e0 := Int.emod_nonneg (s0 + st * i) (show (26 : Int) ≠ 0 by decide)
      have e1 := Int.emod_lt_of_pos (s0 + st * i) (show (0 : Int) < 26 by decide)
      unfold isLet
      omega
    · have hl : many = 2 := by
        have := congrArg List.length hab
        rw [List.length_map, fromTo_len] at this
        exact this
      subst hl
      have h2 : (fromTo 0 2).map (fun i => 97 + ((s0 + st * i) % 26).toNat) = [97 + ((s0 + st * (0 + 0)) % 26).toNat, 97 + ((s0 + st * (0 + 1)) % 26).toNat] := rfl
      rw [h2] at hab
      injection hab with x1 x2
      injection x2 with x2 _
      rw [← x1, ← x2]
      rcases hst2 with e | e | e | e | e | e <;> subst e <;> omega
theorem ok__law_word : Cal W 3 "_law_word" ["_law_draw", "_law_some", "_law_many"] (spWord W.K) := by
  refine cal_mk (d := d_Lword) Z.g_law_word Z.d_Lword sc_Lword bd_Lword (fun vs H Q E h => ?_) fun f cdv A outer s H vs Q E hr h => ?_
  · obtain ⟨_, _, _, _, _, rfl, _⟩ := h; rfl
  obtain ⟨d, l, cs, many, N, rfl, hd, hN, hm, hl, hne, hcl, hlet, k⟩ := h
  refine ⟨_, pss_one (ps_ret (k_join W.K pe_str (pe_lc (own := [("_law_k", 3)]) (g := gName 3) rfl sc_Lword.nd (pi_range1 (by rfl) Z.m_range (pa_cons (pv 2) pa_nil)) (blkOk_by (own := [("_law_k", 3)]) (N := ["_law_draw", "_law_some", "_law_many", "_law_k"]) (sc := defScope s_Lword) (by decide +kernel)) (fun _ _ _ _ _ => pg_name (i := 3) sc_Lword.nd rfl (Or.inl rfl)) (fun _ _ _ _ _ => pts_nil) (fun _ _ _ _ _ => (pe_cal (ok__law_of Z) (hr.mono (by decide)) (pa_cons (pv 0) (pa_cons (pv 1) pa_nil))))))), ?_⟩
  refine ⟨⟨_, rfl⟩, _, rfl, _, rfl, by omega, by omega, fun D hD => ?_⟩
  have hdd : D ≠ d := fun e => by obtain ⟨kv, hk⟩ := hd.get; rw [e, hk] at hD; cases hD
  have hld : l ≠ d := fun e => by obtain ⟨kv, hk⟩ := hd.get; rw [← e, hl] at hk; cases hk
  have hDl : D ≠ l := fun e => by rw [e, hl] at hD; cases hD
  refine lc_range (fun i H' => ∃ us : List Nat, But [d] H H' ∧ DrawAt H' d (N + i) ∧ H' l = some (.lst (sgs cs)) ∧ H' D = some (.lst (sgs us)) ∧ us.length = i ∧ ∀ c ∈ us, isLet c) ⟨[], (same_new hD _).but _, hd.same (same_new hD _), same_new hD _ _ _ hl, upd_same, rfl, by simp⟩ (fun i H' hi q => ?_) (fun H' q => ?_)
  · obtain ⟨us, b, d1, h1, h2, h3, h4⟩ := q
    refine ⟨rfl, _, rfl, _, rfl, d, l, sgs cs, N + i, rfl, d1, by omega, SqL.of h1, by unfold sgs; simpa using hne, by unfold sgs; rw [List.length_map]; omega, fun j x H2 b2 d2 hx => ?_⟩
    obtain ⟨c, hc, rfl⟩ := sgs_at hx
    refine ⟨sgs us, b2 _ _ (by simpa using hdd) h2, sz_lt (by unfold sgs; rw [List.length_map]; omega), us ++ [c], But.mut (fun e o he q => b2 e o he (b e o he q)) hD, ?_, ?_, ?_, by rw [List.length_append, h3]; rfl, fun e he => ?_⟩
    · obtain ⟨l', c', a', x1, x2, x3⟩ := d2
      exact ⟨l', c', a', by rw [upd_ne hdd.symm]; exact x1, x2, by omega⟩
    · rw [upd_ne hDl.symm]; exact b2 _ _ (by simpa using hld) h1
    · rw [upd_same]; unfold sgs; rw [List.map_append]; rfl
    · rcases List.mem_append.mp he with e1 | e1
      · exact h4 e e1
      · simp at e1; rw [e1]; exact hlet c (List.mem_of_getElem? hc)
  · obtain ⟨us, b, d1, h1, h2, h3, h4⟩ := q
    have hsz : (Txt.join "" (us.map sg)).cps.size = us.length := by
      have := congrArg List.length (join_sg us)
      rwa [Array.length_toList] at this
    have h3' : us.length = many := h3
    have hsum : ((us.map sg).map (·.length)).sum = us.length := by
      clear h2 h3 h4 hsz h3'
      induction us with
      | nil => rfl
      | cons a r ih =>
        show 1 + ((r.map sg).map (·.length)).sum = r.length + 1
        rw [ih]
        omega
    refine ⟨_, D, us.map sg, rfl, rfl, .inl (SqL.of (by rw [h2]; unfold sgs; rw [List.map_map]; rfl)), ?_, k (Txt.join "" (us.map sg)) H' b d1 ⟨by omega, fun c hc => ?_⟩ (by omega)⟩
    · rw [hsum]
      have : ("" : Str).length = 0 := by decide +kernel
      show us.length + (us.map sg).length * ("" : Str).length ≤ 16777216
      rw [this]
      omega
    · rw [join_sg] at hc
      exact h4 c hc
theorem ok__law_book : Cal W 3 "_law_book" ["_law_draw", "_law_some"] (spBook W.K) := by
  refine cal_mk (d := d_Lbook) Z.g_law_book Z.d_Lbook sc_Lbook bd_Lbook (fun vs H Q E h => ?_) fun f cdv A outer s H vs Q E hr h => ?_
  · obtain ⟨_, _, _, _, rfl, _⟩ := h; rfl
  obtain ⟨d, l, cs, N, rfl, hd, hN, hl, hne, hcl, hlet, k⟩ := h
  refine ⟨_, pss_cons (ps_set (i := 2) sc_Lbook.nd rfl (Or.inl rfl) (pe_lst pa_nil))
      (pss_cons (ps_for PassesOwn.never rfl (pi_range1 (by rfl) Z.m_range (pa_cons (pe_op op_add pe_int (pe_cal (ok__law_take Z) (hr.mono (by decide)) (pa_cons (pv 0) (pa_cons pe_int pa_nil)))) pa_nil)) (pg_name (i := 3) sc_Lbook.nd rfl (Or.inl rfl)) (pss_cons (ps_par (i := 4) (j := 5) (by rfl) sc_Lbook.nd rfl rfl (by decide) rfl rfl (pa_cons (pe_cal (ok__law_of Z) (hr.mono (by decide)) (pa_cons (pv 0) (pa_cons (pe_op op_cat (pv 1) (pe_lst (pa_cons pe_str (pa_cons pe_str (pa_cons pe_str (pa_cons pe_str pa_nil)))))) pa_nil))) (pa_cons (pe_cal (ok__law_of Z) (hr.mono (by decide)) (pa_cons (pv 0) (pa_cons (pe_op op_cat (pv 1) (pe_lst (pa_cons pe_str (pa_cons pe_str (pa_cons pe_str (pa_cons pe_str pa_nil)))))) pa_nil))) pa_nil)) (by rfl))
      (pss_one (ps_expr (k_append W.K (pv 2) (pe_tup (pa_cons (pv 4) (pa_cons (pe_cal (ok__law_of Z) (hr.mono (by decide)) (pa_cons (pv 0) (pa_cons (pv 1) pa_nil))) (pa_cons (pv 5) (pa_cons (pe_cal (ok__law_of Z) (hr.mono (by decide)) (pa_cons (pv 0) (pa_cons (pe_lst (pa_cons pe_int (pa_cons pe_int (pa_cons pe_int (pa_cons pe_int (pa_cons pe_int (pa_cons pe_int pa_nil))))))) pa_nil))) pa_nil))))))))))
      (pss_one (ps_ret (pe_callTy (k_tuple_of W.K) (by rfl) Z.m_tuple (by decide +kernel) (pa_cons (pv 2) pa_nil))))), ?_⟩
  have hld : l ≠ d := fun e => by obtain ⟨kv, hk⟩ := hd.get; rw [← e, hl] at hk; cases hk
  refine ⟨by show 0 ≤ sizeLine; decide, fun fl hfl => ?_⟩
  have hfd : fl ≠ d := fun e => by obtain ⟨kv, hk⟩ := hd.get; rw [e, hk] at hfl; cases hfl
  have hfl' : fl ≠ l := fun e => by rw [e, hl] at hfl; cases hfl
  have n1 := same_new hfl (.lst [])
  refine ⟨_, rfl, d, 10, N, rfl, hd.same n1, by omega, by decide, by decide +kernel, fun r0 H1 b1 d1 q0 q1 => ?_⟩
  refine ⟨_, _, rfl, rfl, _, rfl, by omega, by omega, ?_⟩
  have bb1 : But [d] H H1 := fun c o hc q => b1 c o hc (n1 c o q)
  refine for_range (fun i σ H' => ∃ w3 w4 w5 rs xs, σ = [some (.ref d), some (.ref l), some (.ref fl), w3, w4, w5] ∧ But [d] H H' ∧ DrawAt H' d (N + 1 + 4 * i) ∧ H' l = some (.lst (sgs cs)) ∧ H' fl = some (.lst xs) ∧ Rules W.K H' xs rs ∧ rs.length = i ∧ ∀ r ∈ rs, GoodR r)
    ⟨_, _, _, [], [], rfl, bb1, d1, b1 _ _ (by simpa using hld) (n1 _ _ hl), b1 _ _ (by simpa using hfd) upd_same, .nil, rfl, by simp⟩ (fun i σ H' hi q => ?_) (fun σ H' q => ?_)
  · obtain ⟨w3, w4, w5, rs, xs, rfl, b, dd, h1, h2, h3, h4, h5⟩ := q
    have hi' : i < 10 := by omega
    have xl : xs.length = i := by rw [Paired.length h3]; exact h4
    have im0 : ∀ {H H' : Hp}, But [d] H H' → (∃ kv, H d = some (.dK kv)) → Im W.K H H' := fun b h => b.im fun a ha => by simp at ha; rw [ha]; obtain ⟨kv, hk⟩ := h; rw [hk]; trivial
    have side : ∀ (e : Nat) (es : Str), es = sg e → ∀ (Hx : Hp) (M : Nat) (R : VK), M ≤ 60000 → DrawAt Hx d M → Hx l = some (.lst (sgs cs)) →
        (∀ c Hy, But [d] Hx Hy → DrawAt Hy d (M + 1) → (isLet c ∨ c = e ∨ c = 42) → R (.str (sg c)) Hy) → ∀ σ : L2.St, σ[0]? = some (some (.ref d)) → σ[1]? = some (some (.ref l)) →
        tCall (spOf W.K) [] E0 (tCons (tVar 0) (tCons (tOp rCat (tVar 1) (tLst (tCons (tC (.str es)) (tCons (tC (.str "*")) (tCons (tC (.str "*")) (tCons (tC (.str "*")) tNil)))))) tNil)) σ Hx R := by
      intro e es he Hx M R hM hdx hlx hR σ hσ0 hσ1
      subst he
      refine ⟨_, hσ0, _, hσ1, by show 4 ≤ sizeLine; decide, fun l1 hl1 => ?_⟩
      have m1 := same_new hl1 (.lst [.str (sg e), .str "*", .str "*", .str "*"])
      refine ⟨l, l1, _, _, rfl, rfl, m1 _ _ hlx, upd_same, sz_of (by unfold sgs; rw [List.length_map]; show cs.length + 4 ≤ _; omega), fun l2 hl2 => ?_⟩
      have m2 := m1.trans (same_new hl2 (.lst (sgs cs ++ [.str (sg e), .str "*", .str "*", .str "*"])))
      refine ⟨d, l2, sgs (cs ++ [e, 42, 42, 42]), M, rfl, hdx.same m2, by omega, SqL.of (by rw [upd_same, st_sg]; unfold sgs; rw [List.map_append]; rfl), by simp [sgs], by unfold sgs; rw [List.length_map, List.length_append]; show cs.length + 4 ≤ _; omega, fun j x Hy bY dY hx => ?_⟩
      obtain ⟨c, hc, rfl⟩ := sgs_at hx
      refine hR c Hy (fun a o ha q => bY a o ha (m2 a o q)) dY ?_
      rcases List.mem_append.mp (List.mem_of_getElem? hc) with m | m
      · exact .inl (hlet c m)
      · simp at m
        rcases m with m | m
        · exact .inr (.inl m)
        · exact .inr (.inr m)
    refine side 60 "<" lt_sg H' (N + 1 + 4 * i) _ (by omega) dd h1 (fun ca H2 b2 d2 hca => ?_) _ rfl rfl
    have h1b := b2 _ _ (by simpa using hld) h1
    refine side 62 ">" gt_sg H2 (N + 1 + 4 * i + 1) _ (by omega) d2 h1b (fun cb H3 b3 d3 hcb => ⟨_, _, rfl, ?_⟩) _ rfl rfl
    have h1c := b3 _ _ (by simpa using hld) h1b
    have h2c := b3 _ _ (by simpa using hfd) (b2 _ _ (by simpa using hfd) h2)
    refine ⟨_, rfl, .inl ⟨rfl, _, SqL.of h2c⟩, _, rfl, _, rfl, _, rfl, d, l, sgs cs, N + 1 + 4 * i + 1 + 1, rfl, d3, by omega, SqL.of h1c, by unfold sgs; simpa using hne, by unfold sgs; rw [List.length_map]; omega, fun j x H4 b4 d4 hx => ?_⟩
    obtain ⟨cx, hcx, rfl⟩ := sgs_at hx
    have h1d := b4 _ _ (by simpa using hld) h1c
    have h2d := b4 _ _ (by simpa using hfd) h2c
    refine ⟨_, rfl, _, rfl, by show 6 ≤ sizeLine; decide, fun l5 hl5 => ⟨d, l5, _, N + 1 + 4 * i + 1 + 1 + 1, rfl, d4.same (same_new hl5 _), by omega, SqL.of upd_same, by simp, by show 6 ≤ 1000; decide, fun j2 x2 H5 b5 d5 hx2 => ?_⟩⟩
    obtain ⟨pc, hpc, rfl⟩ := mapI (ns := [0, 1, 2, 5, 30, 999]) hx2
    have hpc2 : 0 ≤ pc ∧ pc ≤ 999 := by
      have := List.mem_of_getElem? hpc
      simp at this
      omega
    refine ⟨by show 4 ≤ sizeLine; decide, fun t ht => ?_⟩
    have m5 := same_new hl5 (.lst [.int 0, .int 1, .int 2, .int 5, .int 30, .int 999])
    have h2e := b5 _ _ (by simpa using hfd) (m5 _ _ h2d)
    have h1e := b5 _ _ (by simpa using hld) (m5 _ _ h1d)
    have m6 := same_new ht (.tup [.str (sg ca), .str (sg cx), .str (sg cb), .int pc])
    have htf : t ≠ fl := fun e => by rw [e, h2e] at ht; cases ht
    have imA : Im W.K H' (upd (upd H5 t (.tup [.str (sg ca), .str (sg cx), .str (sg cb), .int pc])) fl (.lst (xs ++ [.ref t]))) :=
      ((((((im0 b2 dd.get).trans (im0 b3 d2.get)).trans (im0 b4 d3.get)).trans m5.imS).trans (im0 b5 (d4.same m5).get)).trans m6.imS).trans (im_mut (by rw [m6 _ _ h2e]; trivial))
    refine ⟨fl, xs, _, rfl, rfl, m6 _ _ h2e, sz_lt (by omega), _, _, _, rs ++ [⟨ca, cx, cb, pc⟩], xs ++ [.ref t], rfl, ?_, ?_, ?_, upd_same, ?_, ?_, ?_⟩
    · refine But.mut (But.new (fun c o hc q => b5 c o hc (m5 c o (b4 c o hc (b3 c o hc (b2 c o hc (b c o hc q)))))) ht) hfl
    · obtain ⟨l', c', a', x1, x2, x3⟩ := (d5.same m6)
      exact ⟨l', c', a', by rw [upd_ne hfd.symm]; exact x1, x2, by omega⟩
    · rw [upd_ne hfl'.symm]; exact m6 _ _ h1e
    · exact paired_snoc (Rules.mono h3 imA) ⟨t, rfl, im_mut (by rw [m6 _ _ h2e]; trivial) _ _ (SqT.of upd_same)⟩
    · rw [List.length_append, h4]; rfl
    · intro r hr
      rcases List.mem_append.mp hr with m | m
      · exact h5 r m
      · simp at m
        rw [m]
        exact ⟨hca, hlet cx (List.mem_of_getElem? hcx), hcb, hpc2.1, hpc2.2⟩
  · obtain ⟨w3, w4, w5, rs, xs, rfl, b, dd, h1, h2, h3, h4, h5⟩ := q
    have h4' : rs.length ≤ 10 := by omega
    refine ⟨_, rfl, fl, _, rfl, .inl ⟨SqL.of h2, fun q hq => ?_⟩⟩
    have n2 := same_new hq (.tup xs)
    exact k q xs rs _ (b.seq n2) ((dd.same n2).up (by omega)) ⟨SqT.of upd_same, h3.mono n2.imS⟩ h5 h4'
end
end Sl
/-! SlL2 -/
namespace Sl
open PySem PySem.Spec PyProof.Rows L2
theorem sc_Lsign : FnScope ["_law_text", "_law_place"] ["_law_text", "_law_place"] (defScope s_Lsign) := ⟨rfl, rfl, rfl, by decide +kernel, rfl, by decide +kernel, by decide +kernel⟩
theorem bd_Lsign : Bnd d_Lsign ["_law_text", "_law_place"] := fun _ _ _ _ _ _ us hl => match us, hl with | [_, _], _ => rfl
theorem sc_Lfits : FnScope ["_law_rules", "_law_ahead", "_law_letter", "_law_behind", "_law_rule"] ["_law_rules", "_law_ahead", "_law_letter", "_law_behind"] (defScope s_Lfits) := ⟨rfl, rfl, rfl, by decide +kernel, rfl, by decide +kernel, by decide +kernel⟩
theorem bd_Lfits : Bnd d_Lfits ["_law_rules", "_law_ahead", "_law_letter", "_law_behind"] := fun _ _ _ _ _ _ us hl => match us, hl with | [_, _, _, _], _ => rfl
theorem sc_Lopen : FnScope ["_law_text", "_law_rules", "_law_row", "_law_found", "_law_at"] ["_law_text", "_law_rules", "_law_row"] (defScope s_Lopen) := ⟨rfl, rfl, rfl, by decide +kernel, rfl, by decide +kernel, by decide +kernel⟩
theorem bd_Lopen : Bnd d_Lopen ["_law_text", "_law_rules", "_law_row"] := fun _ _ _ _ _ _ us hl => match us, hl with | [_, _, _], _ => rfl
theorem sc_Lwithout : FnScope ["_law_row", "_law_place", "_law_mine"] ["_law_row", "_law_place"] (defScope s_Lwithout) := ⟨rfl, rfl, rfl, by decide +kernel, rfl, by decide +kernel, by decide +kernel⟩
theorem bd_Lwithout : Bnd d_Lwithout ["_law_row", "_law_place"] := fun _ _ _ _ _ _ us hl => match us, hl with | [_, _], _ => rfl
theorem sc_Lstruck : FnScope ["_law_draw", "_law_text", "_law_rules", "_law_most", "_law_row", "_law_found", "_law_some"] ["_law_draw", "_law_text", "_law_rules", "_law_most"] (defScope s_Lstruck) := ⟨rfl, rfl, rfl, by decide +kernel, rfl, by decide +kernel, by decide +kernel⟩
theorem bd_Lstruck : Bnd d_Lstruck ["_law_draw", "_law_text", "_law_rules", "_law_most"] := fun _ _ _ _ _ _ us hl => match us, hl with | [_, _, _, _], _ => rfl
def spSign : Sp := fun vs H Q _ => ∃ (z : Str) (i : Int), vs = [.str z, .int i] ∧ GoodW z ∧ Q (.str (sg (signAt z i))) H
def spLFits (K : PySem.W.Frag) : Sp := fun vs H Q _ => ∃ p xs rs A X B, vs = [.ref p, .str (sg A), .str (sg X), .str (sg B)] ∧ BookAt K H p xs rs ∧ ∀ H', Same H H' → Q (.bl (minO (prices rs A X B)).isSome) H'
def spOpen (K : PySem.W.Frag) : Sp := fun vs H Q _ => ∃ (z : Str) (p l : Addr) (xs : List V) (rs : List Rule) (st : List Int), vs = [.str z, .ref p, .ref l] ∧ GoodW z ∧ BookAt K H p xs rs ∧ H l = some (.lst ((ends (z.cps.size : Int) st).map V.int)) ∧ st.Nodup ∧ (∀ x ∈ st, 0 ≤ x ∧ x < (z.cps.size : Int)) ∧ st.length ≤ 120 ∧
  ∀ (ns : List Int) q H', Same H H' → H' q = some (.lst (ns.map V.int)) → ns.length ≤ 120 → (∀ x ∈ ns, x ∈ st ∧ (prL z rs st x).isSome = true) → Q (.ref q) H'
def spWithout (K : PySem.W.Frag) : Sp := fun vs H Q _ => ∃ (l : Addr) (ns : List Int) (x : Int), vs = [.ref l, .int x] ∧ H l = some (.lst (ns.map V.int)) ∧ ns.length ≤ 200 ∧ ∀ q H', Same H H' → H' q = some (.lst ((ns.filter fun y => !decide (y = x)).map V.int)) → Q (.ref q) H'
def spStruck (K : PySem.W.Frag) : Sp := fun vs H Q _ => ∃ (d p : Addr) (z : Str) (xs : List V) (rs : List Rule) (most N : Nat), vs = [.ref d, .str z, .ref p, .int (most : Nat)] ∧ DrawAt H d N ∧ N ≤ 50000 ∧ GoodW z ∧ BookAt K H p xs rs ∧
  ∀ (o : List Int) (c : Int) q H', But [d] H H' → DrawAt H' d (N + 120) → H' q = some (.tup (o.map V.int)) → o.Nodup → (∀ x ∈ o, 0 ≤ x ∧ x < (z.cps.size : Int)) → runTo (pr z rs) (z.cps.size : Int) (upTo z.cps.size) o = some (compl z.cps.size o, c) → Q (.ref q) H'
theorem cat_end {K : PySem.W.Frag} {H2 : Hp} {w : Addr} {xs : List V} {y : V} {R : VK} (hw : SqT K H2 w xs) (hl : xs.length ≤ 1000) (hR : ∀ q H3, Same H2 H3 → H3 q = some (.tup (xs ++ [y])) → R (.ref q) H3) :
    ([y] : List V).length ≤ sizeLine ∧ ∀ p, H2 p = none → rCatA K (.ref w) (.ref p) (upd H2 p (.tup [y])) R := by
  refine ⟨by show 1 ≤ sizeLine; decide, fun p hp => ?_⟩
  have k1 := same_new hp (.tup [y])
  refine ⟨w, p, _, _, rfl, rfl, k1.tS hw, SqT.of upd_same, sz_of (by show xs.length + 1 ≤ _; omega), fun e => ?_, fun _ e => (by cases e), fun _ _ r hr => ?_⟩
  · exact hR p _ k1 (by rw [e, upd_same]; rfl)
  · exact hR r _ (k1.trans (same_new hr _)) upd_same
theorem dIm {K : PySem.W.Frag} {H H' : Hp} {d : Addr} {N : Nat} (b : But [d] H H') (h : DrawAt H d N) : Im K H H' := b.im fun a ha => by simp at ha; rw [ha]; obtain ⟨kv, hk⟩ := h.get; rw [hk]; trivial
theorem But.tr {L : List Addr} {H H1 H2 : Hp} (a : But L H H1) (b : But L H1 H2) : But L H H2 := fun c o hc q => b c o hc (a c o hc q)
theorem ends_erase {n : Nat} {o : List Int} {x : Int} (hx : 0 ≤ x ∧ x < (n : Int)) : (ends (n : Int) (compl n o)).filter (fun y => !decide (y = x)) = ends (n : Int) (compl n (o ++ [x])) := by
  rw [compl_snoc, (lt_nodup (compl_lt n o)).erase_eq_filter]
  unfold ends
  rw [List.filter_append, List.filter_append]
  have e1 : [(-1 : Int)].filter (fun y => !decide (y = x)) = [-1] := by
    rw [List.filter_cons, if_pos (by simp; omega)]
    rfl
  have e2 : [(n : Int)].filter (fun y => !decide (y = x)) = [(n : Int)] := by
    rw [List.filter_cons, if_pos (by simp; omega)]
    rfl
  rw [e1, e2]
  congr 2
theorem upTo_get {n i : Nat} (h : i < n) : (upTo n)[i]? = some (i : Int) := by
  unfold upTo
  rw [List.getElem?_map, List.getElem?_range h]
  rfl
theorem ends_full (n : Nat) : fromTo (-1) (n + 2) = ends (n : Int) (upTo n) := by
  refine List.ext_getElem? fun i => ?_
  have hlen : (ends (n : Int) (upTo n)).length = n + 2 := by unfold ends; simp [upTo_len]
  by_cases h : i < n + 2
  · rw [fromTo_get (-1) h]
    cases i with
    | zero => rfl
    | succ k =>
      unfold ends
      by_cases c : k < n
      · rw [List.getElem?_append_left (by simp [upTo_len]; omega)]
        show _ = (upTo n)[k]?
        rw [upTo_get c]
        congr 1
        omega
      · rw [List.getElem?_append_right (by simp [upTo_len]; omega)]
        have : k + 1 - ([-1] ++ upTo n).length = 0 := by simp [upTo_len]; omega
        rw [this]
        show _ = some (n : Int)
        congr 1
        omega
  · rw [List.getElem?_eq_none (by rw [fromTo_len]; omega), List.getElem?_eq_none (by rw [hlen]; omega)]
theorem rgV_ends (n : Nat) : rgV (-1) ((n : Int) + 1) = (ends (n : Int) (upTo n)).map V.int := by
  rw [← ends_full]
  unfold rgV fromTo
  rw [List.map_map, show ((n : Int) + 1 - -1).toNat = n + 2 by omega]
  rfl
theorem minO_some {ns : List Int} : (minO ns).isSome = true ↔ ns ≠ [] := by
  cases ns with
  | nil => simp [minO]
  | cons a r => unfold minO; cases minO r <;> simp
theorem ends_at {n : Int} {st : List Int} {i : Nat} (h : i < st.length) : (ends n st)[i + 1]? = some (st.getD i 0) := by
  unfold ends
  rw [List.getElem?_append_left (by simp; omega)]
  show st[i]? = _
  exact getD_of h
theorem sides_ends {n : Int} {st : List Int} {i : Nat} {x : Int} (hn : st.Nodup) (h : st[i]? = some x) : (ends n st)[i]? = some (sides n (-1) st x).1 ∧ (ends n st)[i + 2]? = some (sides n (-1) st x).2 := by
  have hi := (List.getElem?_eq_some_iff.mp h).1
  have hs := sides_at n st (-1) x i h fun j hj e => by
    have := (List.getElem?_inj (by omega) hn).mp (e.trans h.symm)
    omega
  rw [hs]
  constructor
  · cases i with
    | zero => rfl
    | succ k =>
      rw [ends_at (by omega), if_neg (by omega)]
      rfl
  · by_cases c : i + 1 < st.length
    · rw [ends_at c]
      show _ = some (if i + 1 < st.length then st.getD (i + 1) 0 else n)
      rw [if_pos c]
    · show _ = some (if i + 1 < st.length then st.getD (i + 1) 0 else n)
      rw [if_neg c]
      unfold ends
      rw [List.getElem?_append_right (by simp; omega)]
      have : i + 2 - ([-1] ++ st).length = 0 := by simp; omega
      rw [this]
      rfl
section
variable {W : Wd} (Z : Hd W)
include Z
theorem ok__law_sign : Cal W 1 "_law_sign" ["_law_text", "_law_place"] spSign := by
  refine cal_mk (d := d_Lsign) Z.g_law_sign Z.d_Lsign sc_Lsign bd_Lsign (fun vs H Q E h => ?_) fun f cdv A outer s H vs Q E hr h => ?_
  · obtain ⟨c, e, rfl, _⟩ := h; rfl
  obtain ⟨z, i, rfl, hz, q⟩ := h
  refine ⟨_, pss_cons (ps_if (pt_cmpR op_lt (pv 1) pe_int (nomark _)) (pss_one (ps_ret pe_str)) pss_nil)
      (pss_one (ps_ret (pe_ifExp (pt_cmpR op_lt (pv 1) (pe_callB call_len_str (by rfl) Z.m_len (by decide +kernel) (pa_cons (pv 0) pa_nil)) (nomark _)) (pe_ix ix_str (pv 0) (pv 1) (fun _ _ => rfl)) pe_str))), ?_⟩
  refine ⟨_, rfl, _, _, rfl, rfl, _, rfl, ite2 (fun c => ?_) (fun c => ?_)⟩
  · have h0 : i < 0 := of_decide_eq_true c
    show Q (.str "<") H
    have e : sg (signAt z i) = "<" := by unfold signAt; rw [if_pos h0]; decide +kernel
    rw [← e]
    exact q
  · have h0 : ¬ i < 0 := of_decide_eq_false (Bool.eq_false_iff.mpr c)
    have hl := hz.len
    refine ⟨_, rfl, _, rfl, z, rfl, sz_of (Nat.le_trans hz.len (by decide)), _, _, rfl, rfl, _, rfl, ite2 (fun c => ?_) (fun c => ?_)⟩
    · have h1 : i < (z.cps.size : Int) := of_decide_eq_true c
      exact ⟨_, rfl, _, rfl, z, i, _, rfl, rfl, sz_of (Nat.le_trans hz.len (by decide)), signAt_in (by omega) h1, q⟩
    · have h1 : ¬ i < (z.cps.size : Int) := of_decide_eq_false (Bool.eq_false_iff.mpr c)
      have e2 : sg (signAt z i) = ">" := by
        unfold signAt
        rw [if_neg h0, List.getElem?_eq_none (by rw [Array.length_toList]; omega)]
        decide +kernel
      show Q (.str ">") H
      rw [← e2]
      exact q
theorem ok__law_fits : Cal W 1 "_law_fits" ["_law_rules", "_law_ahead", "_law_letter", "_law_behind"] (spLFits W.K) := by
  refine cal_mk (d := d_Lfits) Z.g_law_fits Z.d_Lfits sc_Lfits bd_Lfits (fun vs H Q E h => ?_) fun f cdv A outer s H vs Q E hr h => ?_
  · obtain ⟨_, _, _, _, _, _, rfl, _⟩ := h; rfl
  obtain ⟨p, xs, rs, A, X, B, rfl, hb, k⟩ := h
  refine ⟨_, pss_cons (ps_for PassesOwn.never rfl (k_tup W.K (pv 0)) (pg_name (i := 4) sc_Lfits.nd rfl (Or.inl rfl)) (pss_one (ps_if (PW.pt (pw_and (pt_cmpR op_eq (pe_ix (k_ix_tup W.K) (pv 4) pe_int (fun _ _ => rfl)) (pv 2) (nomark _)) (pw_and (pt_cmpR (k_op_in_seq W.K) (pe_ix (k_ix_tup W.K) (pv 4) pe_int (fun _ _ => rfl)) (pe_tup (pa_cons (pv 1) (pa_cons pe_str pa_nil))) (by rfl)) (pw_and1 (pt_cmpR (k_op_in_seq W.K) (pe_ix (k_ix_tup W.K) (pv 4) pe_int (fun _ _ => rfl)) (pe_tup (pa_cons (pv 3) (pa_cons pe_str pa_nil))) (by rfl)))))) (pss_one (ps_ret pe_bl)) pss_nil)))
      (pss_one (ps_ret pe_bl)), ?_⟩
  have hlen : xs.length = rs.length := Paired.length hb.rs
  refine ⟨_, rfl, p, rfl, ⟨_, hb.sq⟩, for_tup (xs := xs) (fun i σ H' => (∃ w, σ = [some (.ref p), some (.str (sg A)), some (.str (sg X)), some (.str (sg B)), w]) ∧ Same H H' ∧ prices (rs.take i) A X B = []) ⟨⟨_, rfl⟩, Same.refl H, rfl⟩ (fun i σ H' _ q => q.2.1.tS hb.sq) (fun i x σ H' hx q => ?_) (fun σ H' q => ?_)⟩
  · obtain ⟨⟨w, rfl⟩, g, hp⟩ := q
    obtain ⟨r, hr, rq, rfl, hrq⟩ := Paired.at hb.rs hx
    have hrq' := g.tS hrq
    have e1 : prices (rs.take (i + 1)) A X B = if fits r A X B = true then prices (rs.take i) A X B ++ [r.p] else prices (rs.take i) A X B := by
      unfold prices
      rw [take_snoc hr, List.filter_append, List.map_append]
      cases hff : fits r A X B <;> simp [List.filter_cons, hff]
    have no : ∀ H3, Same H' H3 → fits r A X B = false → ((∃ w', [some (V.ref p), some (.str (sg A)), some (.str (sg X)), some (.str (sg B)), some (.ref rq)] = [some (.ref p), some (.str (sg A)), some (.str (sg X)), some (.str (sg B)), w']) ∧ Same H H3 ∧ prices (rs.take (i + 1)) A X B = []) := fun H3 g3 hf => by
      refine ⟨⟨_, rfl⟩, g.trans g3, ?_⟩
      rw [e1, hf, if_neg Bool.false_ne_true, hp]
    refine ⟨_, rfl, rq, _, _, _, rfl, rfl, hrq', rfl, _, rfl, rfl, _, rfl, ?_⟩
    rw [dec_sg]
    by_cases h1 : r.x = X
    · rw [decide_eq_true h1]
      refine iteT ⟨_, rfl, rq, _, _, _, rfl, rfl, hrq', rfl, _, rfl, by show 2 ≤ sizeLine; decide, fun t ht => ⟨t, _, rfl, .inr (SqT.of upd_same), rfl, rfl, _, rfl, ?_⟩⟩
      have k1 := same_new ht (.tup [.str (sg A), .str "*"])
      show if (inV (.str (sg r.a)) [.str (sg A), .str "*"]) = true then _ else _
      rw [in2]
      by_cases h2 : r.a = A ∨ r.a = 42
      · rw [decide_eq_true h2]
        refine iteT ⟨_, rfl, rq, _, _, _, rfl, rfl, k1.tS hrq', rfl, _, rfl, by show 2 ≤ sizeLine; decide, fun t2 ht2 => ⟨t2, _, rfl, .inr (SqT.of upd_same), rfl, rfl, _, rfl, ?_⟩⟩
        have k2 := k1.trans (same_new ht2 (.tup [.str (sg B), .str "*"]))
        show if (inV (.str (sg r.b)) [.str (sg B), .str "*"]) = true then _ else _
        rw [in2]
        by_cases h3 : r.b = B ∨ r.b = 42
        · rw [decide_eq_true h3]
          refine iteT ?_
          have hff : fits r A X B = true := by simp [fits, h1, h2, h3]
          have hne : prices rs A X B ≠ [] := by
            have : r.p ∈ prices rs A X B := List.mem_map.mpr ⟨r, List.mem_filter.mpr ⟨List.mem_of_getElem? hr, hff⟩, rfl⟩
            intro e
            rw [e] at this
            cases this
          have := k _ (g.trans k2)
          rw [minO_some.mpr hne] at this
          exact this
        · rw [decide_eq_false h3]
          exact iteF (no _ k2 (by simp [fits, h3]))
      · rw [decide_eq_false h2]
        exact iteF (no _ k1 (by simp [fits, h2]))
    · rw [decide_eq_false h1]
      exact iteF (no _ (Same.refl _) (by simp [fits, h1]))
  · obtain ⟨⟨w, rfl⟩, g, hp⟩ := q
    rw [hlen, List.take_length] at hp
    have := k _ g
    rw [hp] at this
    exact this
theorem ok__law_open : Cal W 2 "_law_open" ["_law_text", "_law_rules", "_law_row"] (spOpen W.K) := by
  refine cal_mk (d := d_Lopen) Z.g_law_open Z.d_Lopen sc_Lopen bd_Lopen (fun vs H Q E h => ?_) fun f cdv A outer s H vs Q E hr h => ?_
  · obtain ⟨_, _, _, _, _, _, rfl, _⟩ := h; rfl
  obtain ⟨z, p, l, xs, rs, st, rfl, hz, hb, hl, hn, hr0, hsl, k⟩ := h
  refine ⟨_, pss_cons (ps_set (i := 3) sc_Lopen.nd rfl (Or.inl rfl) (pe_lst pa_nil))
      (pss_cons (ps_for PassesOwn.never rfl (pi_range2 (by rfl) Z.m_range (pa_cons pe_int (pa_cons (pe_op op_sub (pe_callB (k_len_seq W.K) (by rfl) Z.m_len (by decide +kernel) (pa_cons (pv 2) pa_nil)) pe_int) pa_nil))) (pg_name (i := 4) sc_Lopen.nd rfl (Or.inl rfl)) (pss_one (ps_if (pt_val (pe_cal (ok__law_fits Z) (hr.mono (by decide)) (pa_cons (pv 1) (pa_cons (pe_cal (ok__law_sign Z) (hr.mono (by decide)) (pa_cons (pv 0) (pa_cons (pe_ix (k_ix_list W.K) (pv 2) (pe_op op_sub (pv 4) pe_int) (fun _ _ => rfl)) pa_nil))) (pa_cons (pe_ix ix_str (pv 0) (pe_ix (k_ix_list W.K) (pv 2) (pv 4) (fun _ _ => rfl)) (fun _ _ => rfl)) (pa_cons (pe_cal (ok__law_sign Z) (hr.mono (by decide)) (pa_cons (pv 0) (pa_cons (pe_ix (k_ix_list W.K) (pv 2) (pe_op op_add (pv 4) pe_int) (fun _ _ => rfl)) pa_nil))) pa_nil)))))) (pss_one (ps_expr (k_append W.K (pv 3) (pe_ix (k_ix_list W.K) (pv 2) (pv 4) (fun _ _ => rfl))))) pss_nil)))
      (pss_one (ps_ret (pv 3)))), ?_⟩
  have hzl := hz.len
  have hE : (ends (z.cps.size : Int) st).length = st.length + 2 := by unfold ends; simp
  refine ⟨by show 0 ≤ sizeLine; decide, fun fl hfl => ?_⟩
  have n1 := same_new hfl (.lst [])
  refine ⟨_, rfl, l, _, rfl, .inl (SqL.of (n1 _ _ hl)), _, _, rfl, rfl, _, _, rfl, ⟨by omega, by omega, by rw [List.length_map]; omega, by rw [List.length_map]; omega⟩, ?_⟩
  rw [List.length_map, hE]
  refine for_range (fun i σ H' => ∃ w ns, σ = [some (.str z), some (.ref p), some (.ref l), some (.ref fl), w] ∧ Same H H' ∧ H' fl = some (.lst ((ns : List Int).map V.int)) ∧ ns.length ≤ i ∧ ∀ x ∈ ns, x ∈ st ∧ (prL z rs st x).isSome = true)
    ⟨_, [], rfl, n1, upd_same, Nat.le_refl _, by simp⟩ (fun i σ H' hi q => ?_) (fun σ H' q => ?_)
  · obtain ⟨w, ns, rfl, g, h1, h2, h3⟩ := q
    have hi2 : i < st.length := by omega
    have hx := getD_of (as := st) hi2
    obtain ⟨e1, e2⟩ := sides_ends (n := (z.cps.size : Int)) hn hx
    have e0 := ends_at (n := (z.cps.size : Int)) hi2
    have hxm := List.mem_of_getElem? hx
    have hxr := hr0 _ hxm
    generalize hxx : st.getD i 0 = x at *
    have hsq := SqL.of (K := W.K) (g _ _ hl)
    have a1 : atI ((ends (z.cps.size : Int) st).map V.int) (1 + (i : Nat) - 1) = some (.int (sides (z.cps.size : Int) (-1) st x).1) := by
      have := atI_nat (xs := (ends (z.cps.size : Int) st).map V.int) (j := i) (v := .int (sides (z.cps.size : Int) (-1) st x).1) (by rw [List.getElem?_map, e1]; rfl)
      rwa [show ((i : Nat) : Int) = 1 + (i : Nat) - 1 by omega] at this
    have a0 : atI ((ends (z.cps.size : Int) st).map V.int) (1 + (i : Nat)) = some (.int x) := by
      have := atI_nat (xs := (ends (z.cps.size : Int) st).map V.int) (j := i + 1) (v := .int x) (by rw [List.getElem?_map, e0]; rfl)
      rwa [show ((i + 1 : Nat) : Int) = 1 + (i : Nat) by omega] at this
    have a2 : atI ((ends (z.cps.size : Int) st).map V.int) (1 + (i : Nat) + 1) = some (.int (sides (z.cps.size : Int) (-1) st x).2) := by
      have := atI_nat (xs := (ends (z.cps.size : Int) st).map V.int) (j := i + 2) (v := .int (sides (z.cps.size : Int) (-1) st x).2) (by rw [List.getElem?_map, e2]; rfl)
      rwa [show ((i + 2 : Nat) : Int) = 1 + (i : Nat) + 1 by omega] at this
    refine ⟨_, rfl, _, rfl, _, rfl, _, rfl, _, _, rfl, rfl, l, _, _, _, rfl, rfl, hsq, a1, z, _, rfl, hz, ?_⟩
    refine ⟨_, rfl, _, rfl, _, rfl, l, _, _, _, rfl, rfl, hsq, a0, z, x, _, rfl, rfl, sz_of (by show z.cps.size ≤ _; omega), signAt_in hxr.1 hxr.2, ?_⟩
    refine ⟨_, rfl, _, rfl, _, rfl, _, _, rfl, rfl, l, _, _, _, rfl, rfl, hsq, a2, z, _, rfl, hz, ?_⟩
    refine ⟨p, xs, rs, _, _, _, rfl, hb.mono g.imS, fun H2 g2 => ?_⟩
    have g12 := g.trans g2
    have hpr : prL z rs st x = minO (prices rs (signAt z (sides (z.cps.size : Int) (-1) st x).1) (signAt z x) (signAt z (sides (z.cps.size : Int) (-1) st x).2)) := rfl
    cases hm : (minO (prices rs (signAt z (sides (z.cps.size : Int) (-1) st x).1) (signAt z x) (signAt z (sides (z.cps.size : Int) (-1) st x).2))).isSome with
    | false => exact ⟨_, rfl, iteF ⟨_, ns, rfl, g12, g2 _ _ h1, by omega, h3⟩⟩
    | true =>
      have h1' := g2 _ _ h1
      refine ⟨_, rfl, iteT ⟨_, rfl, .inl ⟨rfl, _, SqL.of h1'⟩, _, rfl, _, rfl, l, _, _, _, rfl, rfl, SqL.of (g12 _ _ hl), a0, fl, _, _, rfl, rfl, h1', sz_lt (by rw [List.length_map]; omega), ?_⟩⟩
      refine ⟨_, ns ++ [x], rfl, g12.mutS hfl, by rw [upd_same, List.map_append]; rfl, by rw [List.length_append]; show ns.length + 1 ≤ _; omega, fun y hy => ?_⟩
      rcases List.mem_append.mp hy with m | m
      · exact h3 y m
      · simp at m
        rw [m]
        exact ⟨hxm, by rw [hpr]; exact hm⟩
  · obtain ⟨w, ns, rfl, g, h1, h2, h3⟩ := q
    exact ⟨_, rfl, k ns fl H' g h1 (by omega) h3⟩
theorem ok__law_without : Cal W 1 "_law_without" ["_law_row", "_law_place"] (spWithout W.K) := by
  refine cal_mk (d := d_Lwithout) Z.g_law_without Z.d_Lwithout sc_Lwithout bd_Lwithout (fun vs H Q E h => ?_) fun f cdv A outer s H vs Q E hr h => ?_
  · obtain ⟨_, _, _, rfl, _⟩ := h; rfl
  obtain ⟨l, ns, x, rfl, hl, hlen, k⟩ := h
  refine ⟨_, pss_one (ps_ret (pe_lc (own := [("_law_mine", 2)]) (g := gName 2) rfl sc_Lwithout.nd (k_list W.K (pv 0)) (blkOk_by (own := [("_law_mine", 2)]) (N := ["_law_row", "_law_place", "_law_mine"]) (sc := defScope s_Lwithout) (by decide +kernel)) (fun _ _ _ _ _ => pg_name (i := 2) sc_Lwithout.nd rfl (Or.inl rfl)) (fun _ _ _ _ _ => pts_one (pt_cmpR op_ne (pv 2) (pv 1) (nomark _))) (fun _ _ _ _ _ => (pv 2)))), ?_⟩
  refine ⟨_, rfl, l, rfl, ⟨_, SqL.of hl⟩, fun D hD => ?_⟩
  refine lcF_list ns (fun y => !decide (y = x)) V.int hD (SqL.of hl) (by rw [List.length_map]) (by omega) (fun i v y hv hy H2 R N g2 hR hN => ?_) (fun H2 g2 hD2 => k D H2 g2 hD2)
  obtain rfl := mapI2 hv hy
  refine ⟨rfl, _, rfl, _, rfl, rfl, _, rfl, ?_⟩
  by_cases c : y = x
  · have e : (!decide (V.int y = V.int x)) = false := by rw [c]; simp
    rw [e]
    exact iteF (hN (by rw [decide_eq_true c]; rfl) _ (Same.refl _))
  · have e : (!decide (V.int y = V.int x)) = true := by simp [c]
    rw [e]
    exact iteT ⟨_, rfl, hR (by rw [decide_eq_false c]; rfl) _ (Same.refl _)⟩
theorem ok__law_struck : Cal W 3 "_law_struck" ["_law_draw", "_law_text", "_law_rules", "_law_most"] (spStruck W.K) := by
  refine cal_mk (d := d_Lstruck) Z.g_law_struck Z.d_Lstruck sc_Lstruck bd_Lstruck (fun vs H Q E h => ?_) fun f cdv A outer s H vs Q E hr h => ?_
  · obtain ⟨_, _, _, _, _, _, _, rfl, _⟩ := h; rfl
  obtain ⟨d, p, z, xs, rs, most, N, rfl, hd, hN, hz, hb, k⟩ := h
  refine ⟨_, pss_cons (ps_par (i := 4) (j := 5) (by rfl) sc_Lstruck.nd rfl rfl (by decide) rfl rfl (pa_cons (pe_listRg rfl (by rfl) Z.m_list (prg_2 (by rfl) Z.m_range (pe_un un_neg pe_int) (pe_op op_add (pe_callB call_len_str (by rfl) Z.m_len (by decide +kernel) (pa_cons (pv 1) pa_nil)) pe_int))) (pa_cons (pe_tup pa_nil) pa_nil)) (by rfl))
      (pss_cons (ps_set (i := 6) sc_Lstruck.nd rfl (Or.inl rfl) (pe_cal (ok__law_open Z) (hr.mono (by decide)) (pa_cons (pv 1) (pa_cons (pv 2) (pa_cons (pv 4) pa_nil)))))
      (pss_cons (ps_while PassesOwn.never (PW.pt (pw_and (pt_cmpR (k_op_neD W.K hr.units) (pv 6) (pe_lst pa_nil) (nomark _)) (pw_and1 (pt_cmpR op_lt (pe_callB (k_len_seq W.K) (by rfl) Z.m_len (by decide +kernel) (pa_cons (pv 5) pa_nil)) (pv 3) (nomark _))))) (pss_cons (ps_set (i := 5) sc_Lstruck.nd rfl (Or.inl rfl) (pe_op (k_op_catA W.K) (pv 5) (pe_tup (pa_cons (pe_cal (ok__law_of Z) (hr.mono (by decide)) (pa_cons (pv 0) (pa_cons (pv 6) pa_nil))) pa_nil))))
      (pss_cons (ps_set (i := 4) sc_Lstruck.nd rfl (Or.inl rfl) (pe_cal (ok__law_without Z) (hr.mono (by decide)) (pa_cons (pv 4) (pa_cons (pe_ix (k_ix_tup W.K) (pv 5) (pe_un un_neg pe_int) (fun _ _ => rfl)) pa_nil))))
      (pss_one (ps_set (i := 6) sc_Lstruck.nd rfl (Or.inl rfl) (pe_cal (ok__law_open Z) (hr.mono (by decide)) (pa_cons (pv 1) (pa_cons (pv 2) (pa_cons (pv 4) pa_nil)))))))))
      (pss_one (ps_ret (pv 5))))), ?_⟩
  have hzl := hz.len
  have cl0 : compl z.cps.size [] = upTo z.cps.size := compl_nil _
  refine ⟨_, rfl, _, rfl, z, rfl, sz_of (by show z.cps.size ≤ _; omega), _, _, rfl, rfl, _, _, rfl, rfl, ⟨by omega, by omega, by show -(2 ^ 62) ≤ (z.cps.size : Int) + 1; omega, by show (z.cps.size : Int) + 1 < 2 ^ 62; omega, by show ((z.cps.size : Int) + 1 - -1).toNat ≤ 2 ^ 24; omega⟩, fun lr hlr => ?_⟩
  refine ⟨by show 0 ≤ sizeLine; decide, fun po hpo => ⟨_, _, rfl, ?_⟩⟩
  have n1 := same_new hlr (.lst (rgV (-1) ((z.cps.size : Int) + 1)))
  have n2 := n1.trans (same_new hpo (.tup []))
  have hlr2 := same_new hpo (.tup []) _ _ (show upd H lr (.lst (rgV (-1) ((z.cps.size : Int) + 1))) lr = _ from upd_same)
  have hpo2 : upd (upd H lr (.lst (rgV (-1) ((z.cps.size : Int) + 1)))) po (.tup []) po = _ := upd_same
  have hlr2 := hlr2.trans (show some (HO.lst (rgV (-1) ((z.cps.size : Int) + 1))) = some (HO.lst ((ends (z.cps.size : Int) (compl z.cps.size [])).map V.int)) by rw [cl0, ← rgV_ends])
  have inv0 : ∀ x ∈ compl z.cps.size [], 0 ≤ x ∧ x < (z.cps.size : Int) := fun x hx => (mem_compl.mp hx).1
  have cln : ∀ o, (compl z.cps.size o).length ≤ 120 := fun o => by
    have := List.length_filter_le (fun y => decide (y ∉ o)) (upTo z.cps.size)
    rw [upTo_len] at this
    exact Nat.le_trans this hzl
  refine ⟨_, rfl, _, rfl, _, rfl, z, p, lr, xs, rs, compl z.cps.size [], rfl, hz, hb.mono n2.imS, hlr2, lt_nodup (compl_lt _ _), inv0, cln _, fun ns ls H3 g3 hls hnl hns => ?_⟩
  have g03 := n2.trans g3
  have d3 := hd.same g03
  have hlr3 := g3 _ _ hlr2
  have hpo3 := g3 _ _ hpo2
  refine ⟨fun m σ H' => ∃ (o : List Int) (c : Int) (lr po ls : Addr) (ns : List Int), σ = [some (.ref d), some (.str z), some (.ref p), some (.int (most : Nat)), some (.ref lr), some (.ref po), some (.ref ls)] ∧ But [d] H H' ∧ DrawAt H' d (N + o.length) ∧
      H' lr = some (.lst ((ends (z.cps.size : Int) (compl z.cps.size o)).map V.int)) ∧ H' po = some (.tup (o.map V.int)) ∧ H' ls = some (.lst (ns.map V.int)) ∧ ns.length ≤ 120 ∧ (∀ x ∈ ns, x ∈ compl z.cps.size o ∧ (prL z rs (compl z.cps.size o) x).isSome = true) ∧ o.Nodup ∧
      (∀ x ∈ o, 0 ≤ x ∧ x < (z.cps.size : Int)) ∧ runTo (pr z rs) (z.cps.size : Int) (upTo z.cps.size) o = some (compl z.cps.size o, c) ∧ m = z.cps.size - o.length,
    ⟨_, [], 0, lr, po, ls, ns, rfl, g03.but _, d3, hlr3, hpo3, hls, hnl, hns, .nil, by simp, by rw [cl0]; rfl, rfl⟩, fun m σ H' w => ?_⟩
  obtain ⟨o, c, lr, po, ls, ns, rfl, b, dd, e1, e2, e3, e4, e5, e6, e7, e8, hm⟩ := w
  have hol : o.length ≤ z.cps.size := by
    have := nodup_len (ys := upTo z.cps.size) e6 fun x hx => mem_upTo.mpr (e7 x hx)
    rwa [upTo_len] at this
  have fin : ∀ Hx, Same H' Hx → tRet (tVar 5) { nx := fun x H' => Q V.non H', rt := Q } [some (.ref d), some (.str z), some (.ref p), some (.int (most : Nat)), some (.ref lr), some (.ref po), some (.ref ls)] Hx := fun Hx gx =>
    ⟨_, rfl, k o c po Hx (b.seq gx) ((dd.same gx).up (by omega)) (gx _ _ e2) e6 e7 e8⟩
  refine ⟨_, rfl, by show 0 ≤ sizeLine; decide, fun e he => ?_⟩
  have ge := same_new he (.lst [])
  refine ⟨_, _, dp_lI (SqL.of (ge _ _ e3)), dp_l0 upd_same, shaped_lI _, shaped_lI _, _, rfl, ?_⟩
  rw [eqv_lI]
  by_cases hnil : ns = []
  · rw [decide_eq_true hnil]
    exact iteF (fin _ ge)
  · rw [decide_eq_false hnil]
    refine iteT ⟨_, rfl, po, _, rfl, .inr (SqT.of (ge _ _ e2)), _, rfl, _, _, rfl, rfl, _, rfl, ?_⟩
    refine ite2 (fun _ => ?_) (fun _ => fin _ ge)
    have be := b.seq ge
    have de := dd.same ge
    have f1 := ge _ _ e1
    have f2 := ge _ _ e2
    have f3 := ge _ _ e3
    generalize upd H' e (.lst []) = H4 at ge be de f1 f2 f3
    refine ⟨fun σ' H2 => ∃ m', m' < m ∧ _, fun σ' H2 h => h, ?_⟩
    refine ⟨_, rfl, _, rfl, _, rfl, d, ls, ns.map V.int, N + o.length, rfl, de, by omega, SqL.of f3, by simpa using hnil, by rw [List.length_map]; omega, fun i v H5 b5 d5 hv => ?_⟩
    obtain ⟨x, hx, rfl⟩ := mapI hv
    have hxm := List.mem_of_getElem? hx
    obtain ⟨hxc, hxp⟩ := e5 x hxm
    have hxr := mem_compl.mp hxc
    have nd : ∀ {a : Addr} {u : HO}, H4 a = some u → (∀ kv, u ≠ .dK kv) → a ≠ d := fun {a u} h n e => by obtain ⟨kv, hk⟩ := de.get; rw [e, hk] at h; cases h; exact n _ rfl
    have f1' := b5 _ _ (by simpa using nd f1 (by intro _ e; cases e)) f1
    have f2' := b5 _ _ (by simpa using nd f2 (by intro _ e; cases e)) f2
    refine cat_end (SqT.of f2') (by rw [List.length_map]; omega) fun q H6 g6 hq => ?_
    have hsnoc : runTo (pr z rs) (z.cps.size : Int) (upTo z.cps.size) (o ++ [x]) = some (compl z.cps.size (o ++ [x]), c + (prL z rs (compl z.cps.size o) x).getD 0) := by
      obtain ⟨c1, hc1⟩ := Option.isSome_iff_exists.mp hxp
      rw [runTo_snoc, e8]
      show (if x ∈ compl z.cps.size o then (match prL z rs (compl z.cps.size o) x with | none => none | some c1 => some ((compl z.cps.size o).erase x, c + c1)) else none) = _
      rw [if_pos hxc, hc1, compl_snoc]
      rfl
    have ond : (o ++ [x]).Nodup := List.nodup_append.mpr ⟨e6, by simp, fun a ha y hy e => by simp at hy; exact hxr.2 (by rw [← hy, ← e]; exact ha)⟩
    have oR : ∀ y ∈ o ++ [x], 0 ≤ y ∧ y < (z.cps.size : Int) := fun y hy => by
      rcases List.mem_append.mp hy with m | m
      · exact e7 y m
      · simp at m; rw [m]; exact hxr.1
    have hq' : SqT W.K H6 q ((o ++ [x]).map V.int) := SqT.of (by rw [hq, List.map_append]; rfl)
    refine ⟨_, rfl, _, rfl, _, rfl, q, _, _, _, rfl, rfl, hq', by rw [List.map_append]; exact atI_last _ _, lr, _, x, rfl, g6 _ _ f1', by unfold ends; simp; have := cln o; omega, fun lr2 H7 g7 hlr2 => ?_⟩
    rw [ends_erase hxr.1] at hlr2
    have b7 : But [d] H H7 := ((be.tr b5).seq g6).seq g7
    have d7 : DrawAt H7 d (N + o.length + 1) := (d5.same g6).same g7
    have hb7 : BookAt W.K H7 p xs rs := hb.mono (dIm b7 hd)
    have inv1 : ∀ y ∈ compl z.cps.size (o ++ [x]), 0 ≤ y ∧ y < (z.cps.size : Int) := fun y hy => (mem_compl.mp hy).1
    refine ⟨_, rfl, _, rfl, _, rfl, z, p, lr2, xs, rs, compl z.cps.size (o ++ [x]), rfl, hz, hb7, hlr2, lt_nodup (compl_lt _ _), inv1, cln _, fun ns2 ls2 H8 g8 hls2 hnl2 hns2 => ?_⟩
    have hq8 : H8 q = some (.tup ((o ++ [x]).map V.int)) := by rw [g8 _ _ (g7 _ _ hq), List.map_append]; rfl
    have hol2 : (o ++ [x]).length ≤ z.cps.size := by
      have := nodup_len (ys := upTo z.cps.size) ond fun y hy => mem_upTo.mpr (oR y hy)
      rwa [upTo_len] at this
    have hlen2 : (o ++ [x]).length = o.length + 1 := by rw [List.length_append]; rfl
    exact ⟨z.cps.size - (o ++ [x]).length, by omega, o ++ [x], _, lr2, q, ls2, ns2, rfl, b7.seq g8, (d7.same g8).up (by omega), g8 _ _ hlr2, hq8, hls2, hnl2, hns2, ond, oR, hsnoc, rfl⟩
end
end Sl
/-! SlFz -/
namespace Sl
open PySem PySem.Spec PyProof.Rows L2
/-! ### tuples known to bear no dict of their own -/
def FzT (H : Hp) (a : Addr) (xs : List V) : Prop := ∃ o : Obj, o.dict = none ∧ H a = some (.frz o (.tup xs))
theorem FzT.sq {K : PySem.W.Frag} {H : Hp} {a : Addr} {xs : List V} (h : FzT H a xs) : SqT K H a xs := by
  obtain ⟨o, _, h⟩ := h
  exact .inl (.inr ⟨o, h⟩)
theorem FzT.but {L : List Addr} {H H' : Hp} {a : Addr} {xs : List V} (h : FzT H a xs) (b : ∀ c o, c ∉ L → H c = some o → H' c = some o) (hL : ∀ c ∈ L, Mut (H c)) : FzT H' a xs := by
  obtain ⟨o, h1, h2⟩ := h
  refine ⟨o, h1, b _ _ (fun m => ?_) h2⟩
  have := hL a m
  rw [h2] at this
  exact this
theorem FzT.same {H H' : Hp} {a : Addr} {xs : List V} (h : FzT H a xs) (e : Same H H') : FzT H' a xs := by
  obtain ⟨o, h1, h2⟩ := h
  exact ⟨o, h1, e _ _ h2⟩
def tTupF (t : TA) : TE := fun σ H Q => t σ H fun xs H1 => xs.length ≤ sizeLine ∧ ∀ p o, H1 p = none → o.dict = none → Q (.ref p) (upd H1 p (.frz o (.tup xs)))
def rCatF (K : PySem.W.Frag) : R2 := fun x y H Q => ∃ a b xs ys, x = .ref a ∧ y = .ref b ∧ SqT K H a xs ∧ SqT K H b ys ∧ xs.length + ys.length ≤ sizeLine ∧ ys ≠ [] ∧
  (xs = [] → Q (.ref b) H) ∧ (xs ≠ [] → ∀ p o, H p = none → o.dict = none → Q (.ref p) (upd H p (.frz o (.tup (xs ++ ys)))))
section
variable {X : Cx}
theorem pe_tupF {es : List Expr} {x1 : Nat} {pos : Pos} {t : TA} (h : PA X es t) : PE X (.Tuple es x1 pos) (tTupF t) := by
  refine ⟨fun pins s σ H Q I hq => ?_⟩
  refine wpAny_Tuple_spliced (thn (h.run pos pins s σ H _ I hq) fun us s1 ⟨xs, H1, I1, r, z, q⟩ => ⟨by rw [← r.length]; exact z, ?_⟩)
  have hf : H1 s1.heap.objs.size = none := I1.hok.fresh (Nat.le_refl _)
  refine ⟨.ref s1.heap.objs.size, upd H1 s1.heap.objs.size (.frz { cls := .type "tuple", data := .seq us.toArray } (.tup xs)), I1.laid (t' := s1.toks) (fun b u e => Heap.get?_push_of_some _ e) (Nat.le_refl _) ?_, rfl, q _ _ hf rfl⟩
  exact ⟨Heap.get?_push_size _ rfl, z, us, r, ⟨_, Heap.get?_push_size _ rfl, rfl, _, rfl⟩⟩
theorem op_catF : OpR X (binaryOp .Add) (rCatF X.K) := by
  intro pins s σ H x y v u Q I rx ry h
  obtain ⟨a, b, xs, ys, rfl, rfl, ha, hb, hz, hy, q0, q2⟩ := h
  cases rx
  cases ry
  obtain ⟨its, r1, p1, _⟩ := I.tuple ha
  obtain ⟨its2, r2, p2, _⟩ := I.tuple hb
  by_cases hx : xs = []
  · subst hx
    cases r1
    exact cat_tup0 p1 p2 ⟨.ref b, H, I, rfl, q0 rfl⟩
  · refine HT.cat_tup p1 p2 (fun z => hx (r1.nil_iff.mp z)) (fun z => absurd (r2.nil_iff.mp z) hy) (fun z => ?_) (by rw [← r1.length, ← r2.length]; exact hz)
    refine ⟨.ref s.heap.objs.size, _, I.laid (t' := s.toks) (o := .frz { cls := .type "tuple", data := .seq (its ++ its2).toArray } (.tup (xs ++ ys))) (fun b ob q => Heap.get?_push_of_some _ q) (Nat.le_refl _) ?_, rfl, q2 hx _ _ (I.hok.fresh (Nat.le_refl _)) rfl⟩
    exact ⟨Heap.get?_push_size _ rfl, by rw [List.length_append]; exact hz, _, r1.append r2, IsTup.new _ _⟩
theorem k_op_catF (K : PySem.W.Frag) (h : X.K = K := by rfl) : OpR X (binaryOp .Add) (rCatF K) := by subst h; exact op_catF
/-- t.index(n) -/
def tTIx (to te : TE) : TE := fun σ H Q => to σ H fun x H1 => ∃ (p : Addr) (ys : List Int), x = .ref p ∧ FzT H1 p (ys.map V.int) ∧ te σ H1 fun y H2 => ∃ (z : Int) (j : Nat), y = .int z ∧ FzT H2 p (ys.map V.int) ∧ ys[j]? = some z ∧ (∀ m, m < j → ys[m]? ≠ some z) ∧ Q (.int (j : Nat)) H2
theorem pe_tindexF {o e : Expr} {to te : TE} {apos cpos : Pos} (ho : PE X o to) (ha : PE X e te)
    (hbase : attributeBase o "index" X.env (eval o X.env) = eval o X.env := by rfl)
    (hfew : ((backTo cpos (starEach (e :: []) X.env)).all (fun x => !x.1) && (backToKw cpos (keywordEach [] X.env)).all (fun x => x.1.isSome)
      && decide ((e :: []).length + ([] : List Keyword).length + (if ([] : List Keyword).isEmpty then 0 else 1) < 30)) = true := by rfl)
    (hline : (apos.endLine == cpos.line) = true := by rfl) (ht : backTo cpos (starEach [e] X.env) = [(false, eval e X.env)] := by rfl) :
    PE X (.Call (.Attribute o "index" apos) [e] [] cpos) (tTIx to te) := by
  refine ⟨fun pins s σ H Q I h => ?_⟩
  refine wpAny_Call_method hbase hfew hline PySem.F.plainAttrs_tuple PySem.F.slot_tuple_index PySem.F.type_tuple_index (thn (ho.run pins s σ H _ I h) fun u s1 ⟨x, H1, I1, rx, p, ys, ex, hf, q1⟩ => ?_)
  subst ex
  obtain rfl : u = Value.ref p := rx
  obtain ⟨ob, hd, hp⟩ := hf
  have hob := (I1.hok p _ hp)
  obtain ⟨hget, hz, its, r, hit⟩ := hob
  refine ⟨?_, fun b hb => ?_, ?_⟩
  · obtain ⟨o', ho', hc', _⟩ := hit
    exact ⟨o', ho', hc'⟩
  · cases hb
    exact ⟨ob, hget, hd⟩
  · rw [ht]
    refine Calls.callWith_builtin rfl (Calls.evalArgs_plain (Calls.spliced_cons (thn (ha.run pins s1 σ H1 _ I1 q1) fun iv s2 ⟨y, H2, I2, ry, z, j, ey, hf2, hy, hno, q2⟩ => Calls.spliced_nil ?_)))
    subst ey
    exact mt_tup_indexI pins s2 σ H2 (.ref p) [.int z] (.ref p) [iv] Q I2 rfl (.cons ry .nil) ⟨p, ys, z, j, rfl, rfl, hf2.sq, hy, hno, q2⟩
end
end Sl
/-! SlL3 -/
namespace Sl
open PySem PySem.Spec PyProof.Rows L2
theorem sc_Lgaps : FnScope ["_law_text", "_law_places", "_law_ends", "_law_place", "_law_found", "_law_low", "_law_high", "_law_row"] ["_law_text", "_law_places"] (defScope s_Lgaps) := ⟨rfl, rfl, rfl, by decide +kernel, rfl, by decide +kernel, by decide +kernel⟩
theorem bd_Lgaps : Bnd d_Lgaps ["_law_text", "_law_places"] := fun _ _ _ _ _ _ us hl => match us, hl with | [_, _], _ => rfl
theorem sc_Lwoven : FnScope ["_law_draw", "_law_parts", "_law_left", "_law_found", "_law_part", "_law_own"] ["_law_draw", "_law_parts"] (defScope s_Lwoven) := ⟨rfl, rfl, rfl, by decide +kernel, rfl, by decide +kernel, by decide +kernel⟩
theorem bd_Lwoven : Bnd d_Lwoven ["_law_draw", "_law_parts"] := fun _ _ _ _ _ _ us hl => match us, hl with | [_, _], _ => rfl
def GapV (K : PySem.W.Frag) (H : Hp) (π : Int × Int → List Int) (v : V) (g : Int × Int) : Prop := ∃ q w, v = .ref q ∧ SqT K H q [.int g.1, .int g.2, .ref w] ∧ SqT K H w ((π g).map V.int)
theorem GapV.mono {K : PySem.W.Frag} {H H' : Hp} {π : Int × Int → List Int} {v : V} {g : Int × Int} (e : Im K H H') (h : GapV K H π v g) : GapV K H' π v g := by
  obtain ⟨q, w, h1, h2, h3⟩ := h
  exact ⟨q, w, h1, e _ _ h2, e _ _ h3⟩
def GapsV (K : PySem.W.Frag) (H : Hp) (π : Int × Int → List Int) (us : List V) (gs : List (Int × Int)) : Prop := Paired (GapV K H π) us gs
theorem GapsV.mono {K : PySem.W.Frag} {H H' : Hp} {π : Int × Int → List Int} {us : List V} {gs : List (Int × Int)} (e : Im K H H') (h : GapsV K H π us gs) : GapsV K H' π us gs := Paired.mapP h fun _ _ q => q.mono e
def partOf (o : List Int) (g : Int × Int) : List Int := part o g.1 g.2
/-- the gaps that hold strikes -/
def full (n : Int) (o st : List Int) : List (Int × Int) := (gapsOf n st).filter fun g => decide (partOf o g ≠ [])
def spLGaps (K : PySem.W.Frag) : Sp := fun vs H Q _ => ∃ (z : Str) (po : Addr) (o : List Int), vs = [.str z, .ref po] ∧ GoodW z ∧ SqT K H po (o.map V.int) ∧ (∀ x ∈ o, 0 ≤ x ∧ x < (z.cps.size : Int)) ∧ o.length ≤ 120 ∧
  ∀ l us H', Same H H' → H' l = some (.lst us) → GapsV K H' (partOf o) us (full (z.cps.size : Int) o (compl z.cps.size o)) → us.length ≤ 121 → Q (.ref l) H'
def Tups (K : PySem.W.Frag) (H : Hp) (us : List V) (ps : List (List Int)) : Prop := Paired (fun v p => ∃ q, v = V.ref q ∧ SqT K H q ((p : List Int).map V.int)) us ps
def spWoven (K : PySem.W.Frag) : Sp := fun vs H Q _ => ∃ (d lp : Addr) (us : List V) (ps : List (List Int)) (N : Nat), vs = [.ref d, .ref lp] ∧ DrawAt H d N ∧ N ≤ 50000 ∧ SqL K H lp us ∧ Tups K H us ps ∧ (∀ p ∈ ps, p ≠ []) ∧ us.length ≤ 121 ∧ ps.flatten.length ≤ 120 ∧
  ∀ (w : List Int) q H', But [d] H H' → DrawAt H' d (N + 120) → Wv ps w → FzT H' q (w.map V.int) → Q (.ref q) H'
theorem im_at {K : PySem.W.Frag} {H : Hp} {p : Addr} {xs : List V} {o : HO} (h : H p = some (.lst xs)) : Im K H (upd H p o) := im_mut (by rw [h]; trivial)
/-- lists of ints at unlike addresses -/
def Lists (H0 H : Hp) (L : List (Addr × List Int)) : Prop := (L.map Prod.fst).Nodup ∧ ∀ x ∈ L, H0 x.1 = none ∧ H x.1 = some (.lst (x.2.map V.int))
theorem Lists.mono {H0 H H' : Hp} {L : List (Addr × List Int)} (h : Lists H0 H L) (e : ∀ x ∈ L, ∀ o, H x.1 = some o → H' x.1 = some o) : Lists H0 H' L := ⟨h.1, fun x hx => ⟨(h.2 x hx).1, e x hx _ (h.2 x hx).2⟩⟩
def refs (L : List (Addr × List Int)) : List V := L.map fun x => V.ref x.1
theorem dpLists {K : PySem.W.Frag} {H : Hp} : ∀ {L : List (Addr × List Int)}, (∀ x ∈ L, H x.1 = some (.lst (x.2.map V.int))) → DpAll K H (refs L) (L.map fun x => PyData.list (pInts x.2))
  | [], _ => .nil
  | x :: L, h => .cons (dp_lI (SqL.of (h x List.mem_cons_self))) (dpLists fun y hy => h y (List.mem_cons_of_mem _ hy))
theorem lists_shaped (L : List (Addr × List Int)) : SeqAt.shaped (.list (L.map fun x => PyData.list (pInts x.2))) = true := by
  have h1 : PyData.canLayAll0 (L.map fun x => PyData.list (pInts x.2)) = true := by
    induction L with
    | nil => simp [PyData.canLayAll0]
    | cons a r ih => simp only [List.map_cons, PyData.canLayAll0, PyData.canLay0, pInts_lay, ih, Bool.and_self]
  have h2 : PyData.depthAll (L.map fun x => PyData.list (pInts x.2)) ≤ 3 := by
    clear h1
    induction L with
    | nil => simp [PyData.depthAll]
    | cons a r ih =>
      have := pInts_depth a.2
      simp only [List.map_cons, PyData.depthAll, PyData.depth]
      omega
  exact shaped_of (by simp only [PyData.canLay0]; exact h1) (by simp only [PyData.depth]; omega)
theorem split_at {α : Type} : ∀ {L : List α} {i : Nat} {x : α}, L[i]? = some x → ∃ A B, L = A ++ x :: B ∧ A.length = i
  | [], _, _, h => by simp at h
  | y :: L, 0, x, h => by simp at h; exact ⟨[], L, by rw [h]; rfl, rfl⟩
  | y :: L, i + 1, x, h => by
    obtain ⟨A, B, h1, h2⟩ := split_at (L := L) (by simpa using h)
    exact ⟨y :: A, B, by rw [h1]; rfl, by rw [List.length_cons, h2]⟩
def tot (L : List (Addr × List Int)) : Nat := (L.map fun x => x.2.length).sum
theorem tot_app (A B : List (Addr × List Int)) : tot (A ++ B) = tot A + tot B := by unfold tot; rw [List.map_append, List.sum_append]
theorem tot_filter (A : List (Addr × List Int)) : tot (A.filter fun x => decide (x.2 ≠ [])) = tot A := by
  induction A with
  | nil => rfl
  | cons a r ih =>
    rw [List.filter_cons]
    by_cases c : a.2 = []
    · rw [if_neg (by simp [c]), ih]
      show tot r = a.2.length + tot r
      rw [c]
      simp
    · rw [if_pos (decide_eq_true c)]
      show a.2.length + tot _ = a.2.length + tot r
      rw [ih]
theorem catF_end {K : PySem.W.Frag} {H2 : Hp} {w : Addr} {xs : List V} {y : V} {R : VK} (hw : FzT H2 w xs) (hl : xs.length ≤ 1000) (hR : ∀ q H3, Same H2 H3 → FzT H3 q (xs ++ [y]) → R (.ref q) H3) :
    ([y] : List V).length ≤ sizeLine ∧ ∀ p o, H2 p = none → o.dict = none → rCatF K (.ref w) (.ref p) (upd H2 p (.frz o (.tup [y]))) R := by
  refine ⟨by show 1 ≤ sizeLine; decide, fun p o hp ho => ?_⟩
  have k1 := same_new hp (.frz o (.tup [y]))
  refine ⟨w, p, _, _, rfl, rfl, (hw.same k1).sq, .inl (.inr ⟨o, upd_same⟩), sz_of (by show xs.length + 1 ≤ _; omega), by simp, fun e => ?_, fun _ r o2 hr ho2 => ?_⟩
  · exact hR p _ k1 ⟨o, ho, by rw [e, upd_same]; rfl⟩
  · exact hR r _ (k1.trans (same_new hr _)) ⟨o2, ho2, upd_same⟩
theorem compl_full {n : Nat} {o : List Int} (h : ∀ x ∈ o, 0 ≤ x ∧ x < (n : Int)) : (fromTo (-1) (n + 2)).filter (fun y => decide (y ∉ o)) = ends (n : Int) (compl n o) := by
  rw [ends_full]
  unfold ends compl
  rw [List.filter_append, List.filter_append]
  have e1 : [(-1 : Int)].filter (fun y => decide (y ∉ o)) = [-1] := by
    rw [List.filter_cons, if_pos]
    · rfl
    · refine decide_eq_true fun m => ?_
      have := h _ m
      omega
  have e2 : [(n : Int)].filter (fun y => decide (y ∉ o)) = [(n : Int)] := by
    rw [List.filter_cons, if_pos]
    · rfl
    · refine decide_eq_true fun m => ?_
      have := h _ m
      omega
  rw [e1, e2]
section
variable {W : Wd} (Z : Hd W)
include Z
theorem ok__law_gaps : Cal W 1 "_law_gaps" ["_law_text", "_law_places"] (spLGaps W.K) := by
  refine cal_mk (d := d_Lgaps) Z.g_law_gaps Z.d_Lgaps sc_Lgaps bd_Lgaps (fun vs H Q E h => ?_) fun f cdv A outer s H vs Q E hr h => ?_
  · obtain ⟨_, _, _, rfl, _⟩ := h; rfl
  obtain ⟨z, po, o, rfl, hz, ho, hr0, hol, k⟩ := h
  refine ⟨_, pss_cons (ps_setLc (i := 2) (own := [("_law_place", 3)]) (g := gName 3) rfl sc_Lgaps.nd rfl rfl (sw_true rfl rfl rfl (by decide +kernel)) (pi_range2 (by rfl) Z.m_range (pa_cons (pe_un un_neg pe_int) (pa_cons (pe_op op_add (pe_callB call_len_str (by rfl) Z.m_len (by decide +kernel) (pa_cons (pv 0) pa_nil)) pe_int) pa_nil))) (blkOk_by (own := [("_law_place", 3)]) (N := ["_law_text", "_law_places", "_law_ends", "_law_place", "_law_found", "_law_low", "_law_high", "_law_row"]) (sc := defScope s_Lgaps) (by decide +kernel)) (fun _ _ _ _ _ => pg_name (i := 3) sc_Lgaps.nd rfl (Or.inl rfl)) (fun _ _ _ _ _ => pts_one (pt_cmpR (k_op_notIn_seq W.K) (pv 3) (pv 1) (by rfl))) (fun _ _ _ _ _ => (pv 3)))
      (pss_cons (ps_set (i := 4) sc_Lgaps.nd rfl (Or.inl rfl) (pe_lst pa_nil))
      (pss_cons (ps_for PassesOwn.never rfl (pi_zip (by rfl) Z.m_zip (pa_cons (pv 2) (pa_cons (pe_slice (k_sl_list W.K) (pv 2) (po_some pe_int) po_none) pa_nil))) (pg_tup rfl (pgs_cons (pg_name (i := 5) sc_Lgaps.nd rfl (Or.inr rfl)) (pgs_cons (pg_name (i := 6) sc_Lgaps.nd rfl (Or.inr rfl)) pgs_nil))) (pss_one (ps_expr (k_append W.K (pv 4) (pe_tup (pa_cons (pv 5) (pa_cons (pv 6) (pa_cons (pe_callTy (k_tuple_of W.K) (by rfl) Z.m_tuple (by decide +kernel) (pa_cons (pe_lc (own := [("_law_place", 3)]) (g := gName 3) rfl sc_Lgaps.nd (k_tup W.K (pv 1)) (blkOk_by (own := [("_law_place", 3)]) (N := ["_law_text", "_law_places", "_law_ends", "_law_place", "_law_found", "_law_low", "_law_high", "_law_row"]) (sc := defScope s_Lgaps) (by decide +kernel)) (fun _ _ _ _ _ => pg_name (i := 3) sc_Lgaps.nd rfl (Or.inl rfl)) (fun _ _ _ _ _ => pts_one (pt_chain op_lt op_lt (pv 5) (pv 3) (pv 6))) (fun _ _ _ _ _ => (pv 3))) pa_nil)) pa_nil))))))))
      (pss_one (ps_ret (pe_lc (own := [("_law_row", 7)]) (g := gName 7) rfl sc_Lgaps.nd (k_list W.K (pv 4)) (blkOk_by (own := [("_law_row", 7)]) (N := ["_law_text", "_law_places", "_law_ends", "_law_place", "_law_found", "_law_low", "_law_high", "_law_row"]) (sc := defScope s_Lgaps) (by decide +kernel)) (fun _ _ _ _ _ => pg_name (i := 7) sc_Lgaps.nd rfl (Or.inl rfl)) (fun _ _ _ _ _ => pts_one (pt_cmpR (k_op_neD W.K hr.units) (pe_ix (k_ix_tup W.K) (pv 7) pe_int (fun _ _ => rfl)) (pe_tup pa_nil) (nomark _))) (fun _ _ _ _ _ => (pv 7))))))), ?_⟩
  have hzl := hz.len
  refine ⟨_, rfl, _, rfl, z, rfl, sz_of (by show z.cps.size ≤ _; omega), _, _, rfl, rfl, _, _, rfl, ⟨by omega, by omega, by show -(2 ^ 62) ≤ (z.cps.size : Int) + 1; omega, by show (z.cps.size : Int) + 1 < 2 ^ 62; omega⟩, fun D hD => ?_⟩
  have hn2 : ((z.length : Int) + 1 - -1).toNat = z.cps.size + 2 := by show ((z.cps.size : Int) + 1 - -1).toNat = _; omega
  rw [show ((z.length : Int) + 1 - (fun i => -i) 1).toNat = z.cps.size + 2 from hn2]
  refine lcF_range (lo := -1) (n := z.cps.size + 2) (fun y => decide (y ∉ o)) V.int hD (by omega) (fun i hi H2 R N g2 hR hN => ?_) (fun H2 g2 hD2 => ?_)
  · refine ⟨rfl, _, rfl, _, rfl, po, _, rfl, .inr (g2.tS ho), rfl, flat_ints _, _, rfl, ?_⟩
    show if (if true = true then !inV (V.int (-1 + (i : Nat))) (o.map V.int) else inV (V.int (-1 + (i : Nat))) (o.map V.int)) = true then _ else _
    rw [if_pos rfl, inV_int]
    by_cases c : -1 + ((i : Nat) : Int) ∈ o
    · rw [decide_eq_true c]
      exact iteF (hN (decide_eq_false fun h => h c) _ (Same.refl _))
    · rw [decide_eq_false c]
      exact iteT ⟨_, rfl, hR (decide_eq_true c) _ (Same.refl _)⟩
  · rw [compl_full hr0] at hD2
    refine ⟨by show 0 ≤ sizeLine; decide, fun fl hfl => ?_⟩
    have fl0 : H fl = none := same_free g2 hfl
    have n3 := same_new hfl (.lst [])
    have g3 := g2.trans n3
    have hD3 := n3 _ _ hD2
    have hf3 : upd H2 fl (.lst []) fl = _ := upd_same
    have hDf : D ≠ fl := ne_of_none hD2 hfl
    generalize upd H2 fl (.lst []) = H3 at n3 g3 hD3 hf3
    generalize hst : compl z.cps.size o = st at *
    have hstl : st.length ≤ 120 := by
      rw [← hst]
      have := List.length_filter_le (fun y => decide (y ∉ o)) (upTo z.cps.size)
      rw [upTo_len] at this
      exact Nat.le_trans this hzl
    have hE : (ends (z.cps.size : Int) st).length = st.length + 2 := by unfold ends; simp
    obtain ⟨e0, er, hEe⟩ : ∃ e0 er, ends (z.cps.size : Int) st = e0 :: er := ⟨-1, st ++ [(z.cps.size : Int)], rfl⟩
    have htl : (ends (z.cps.size : Int) st).tail.length = st.length + 1 := by rw [List.length_tail, hE]; rfl
    have hcut : cutV ((ends (z.cps.size : Int) st).map V.int) (some 1) none = (ends (z.cps.size : Int) st).tail.map V.int := by rw [hEe, List.map_cons, cut1]; rfl
    refine ⟨_, rfl, _, rfl, 1, rfl, D, _, rfl, SqL.of hD3, fun l7 h7 => ?_⟩
    have n7 := same_new h7 (.lst (cutV ((ends (z.cps.size : Int) st).map V.int) (some 1) none))
    have g7 := g3.trans n7
    have hD7 := n7 _ _ hD3
    have hf7 := n7 _ _ hf3
    have hl7 : upd H3 l7 (.lst (cutV ((ends (z.cps.size : Int) st).map V.int) (some 1) none)) l7 = some (.lst ((ends (z.cps.size : Int) st).tail.map V.int)) := by rw [upd_same, hcut]
    have fl7 : fl ≠ l7 := ne_of_none hf3 h7
    generalize upd H3 l7 (.lst (cutV ((ends (z.cps.size : Int) st).map V.int) (some 1) none)) = H7 at n7 g7 hD7 hf7 hl7
    refine ⟨D, l7, (ends (z.cps.size : Int) st).map V.int, (ends (z.cps.size : Int) st).tail.map V.int, rfl, SqL.of hD7, SqL.of hl7, ?_⟩
    refine for_zipM (xs := (ends (z.cps.size : Int) st).map V.int) (ys := (ends (z.cps.size : Int) st).tail.map V.int) (st.length + 1) (by rw [List.length_map, hE]; omega) (by rw [List.length_map, htl]; exact Nat.le_refl _) (.inr (by rw [List.length_map, htl]))
      (fun i σ H' => ∃ w5 w6 us, σ = [some (.str z), some (.ref po), some (.ref D), none, some (.ref fl), w5, w6, none] ∧ Same H H' ∧ H' D = some (.lst ((ends (z.cps.size : Int) st).map V.int)) ∧ H' l7 = some (.lst ((ends (z.cps.size : Int) st).tail.map V.int)) ∧
        H' fl = some (.lst us) ∧ GapsV W.K H' (partOf o) us ((gapsOf (z.cps.size : Int) st).take i))
      ⟨_, _, [], rfl, g7, hD7, hl7, hf7, .nil⟩ (fun i σ H' q => ?_) (fun i x y T σ H' hx hy hi q hT => ?_) (fun σ H' q => ?_)
    · obtain ⟨w5, w6, us, _, _, a1, a2, _⟩ := q
      exact ⟨SqL.of a1, SqL.of a2⟩
    · obtain ⟨w5, w6, us, rfl, g, a1, a2, a3, a4⟩ := q
      obtain ⟨lo, hlo, rfl⟩ := mapI hx
      obtain ⟨hi', hhi, rfl⟩ := mapI hy
      have hgp : (gapsOf (z.cps.size : Int) st)[i]? = some (lo, hi') := by
        unfold gapsOf
        rw [List.getElem?_zip_eq_some]
        exact ⟨hlo, hhi⟩
      have n1 := same_new hT (.tup [.int lo, .int hi'])
      have g1' := g.trans n1
      refine ⟨T, _, rfl, SqT.of upd_same, rfl, _, _, rfl, _, _, rfl, rfl, ?_⟩
      have b1 := n1 _ _ a1
      have b2 := n1 _ _ a2
      have b3 := n1 _ _ a3
      have b4 := GapsV.mono n1.imS a4
      generalize upd H' T (.tup [.int lo, .int hi']) = H8 at n1 g1' b1 b2 b3 b4
      refine ⟨_, rfl, .inl ⟨rfl, _, SqL.of b3⟩, _, rfl, _, rfl, _, rfl, po, rfl, ⟨_, g1'.tS ho⟩, fun D2 hD20 => ?_⟩
      refine lcF_tup o (fun x => decide (lo < x) && decide (x < hi')) V.int hD20 (g1'.tS ho) (by rw [List.length_map]) (by omega) (fun j v y hv hy H9 R N g9 hR hN => ?_) (fun H9 g9 hD9 => ?_)
      · obtain rfl := mapI2 hv hy
        refine ⟨rfl, _, rfl, _, rfl, _, _, rfl, rfl, _, rfl, ?_⟩
        by_cases c : lo < y
        · rw [decide_eq_true c]
          refine iteT ⟨_, rfl, _, _, rfl, rfl, _, rfl, ?_⟩
          by_cases c2 : y < hi'
          · rw [decide_eq_true c2]
            exact iteT ⟨_, rfl, hR (by rw [decide_eq_true c, decide_eq_true c2]; rfl) _ (Same.refl _)⟩
          · rw [decide_eq_false c2]
            exact iteF (hN (by rw [decide_eq_false c2]; simp) _ (Same.refl _))
        · rw [decide_eq_false c]
          refine iteF ⟨_, rfl, iteF (hN (by rw [decide_eq_false c]; rfl) _ (Same.refl _))⟩
      · refine ⟨D2, _, rfl, .inl ⟨SqL.of hD9, fun t1 ht1 => ?_⟩⟩
        have m1 := same_new ht1 (.tup ((part o lo hi').map V.int))
        refine ⟨by show 3 ≤ sizeLine; decide, fun t2 ht2 => ?_⟩
        have m2 := m1.trans (same_new ht2 (.tup [.int lo, .int hi', .ref t1]))
        have g89 := g9.trans m2
        refine ⟨fl, us, _, rfl, rfl, g89 _ _ b3, sz_lt ?_, ?_⟩
        · have := Paired.length b4
          rw [List.length_take] at this
          omega
        have hfl9 := g89 _ _ b3
        have im := im_at (K := W.K) (o := .lst (us ++ [.ref t2])) hfl9
        refine ⟨_, _, us ++ [.ref t2], rfl, (g1'.trans g89).mutS fl0, ?_, ?_, upd_same, ?_⟩
        · rw [upd_ne hDf]; exact g89 _ _ b1
        · rw [upd_ne fl7.symm]; exact g89 _ _ b2
        · rw [take_snoc hgp]
          refine paired_snoc (GapsV.mono im (GapsV.mono g89.imS b4)) ⟨t2, t1, rfl, im _ _ (SqT.of upd_same), im _ _ (SqT.of (same_new ht2 _ _ _ upd_same))⟩
    · obtain ⟨w5, w6, us, rfl, g, a1, a2, a3, a4⟩ := q
      have hgl : (gapsOf (z.cps.size : Int) st).length = st.length + 1 := by
        unfold gapsOf
        rw [List.length_zip, htl, hE]
        omega
      rw [List.take_of_length_le (by omega)] at a4
      have hul := Paired.length a4
      refine ⟨_, rfl, fl, rfl, ⟨_, SqL.of a3⟩, fun R hR0 => ?_⟩
      refine lc_list (xs := us) (fun i H'' => ∃ vs, Same H' H'' ∧ H'' R = some (.lst vs) ∧ vs.length ≤ i ∧ GapsV W.K H'' (partOf o) vs (((gapsOf (z.cps.size : Int) st).take i).filter fun g => decide (partOf o g ≠ []))) ⟨[], same_new hR0 _, upd_same, Nat.le_refl _, .nil⟩ (fun i H'' _ q => ?_) (fun i x H'' hx q => ?_) (fun H'' q => ?_)
      · obtain ⟨_, gg, _⟩ := q
        exact gg.seq (SqL.of a3)
      · obtain ⟨vs, gg, c1, c2, c3⟩ := q
        obtain ⟨gp, hgp, q, w, rfl, x1, x2⟩ := Paired.at a4 hx
        have y1 := gg.tS x1
        have y2 := gg.tS x2
        refine ⟨rfl, _, rfl, q, _, _, _, rfl, rfl, y1, rfl, by show 0 ≤ sizeLine; decide, fun e he => ?_⟩
        have ne := same_new he (.tup [])
        refine ⟨_, _, dp_tI (ne.tS y2), dp_t0 upd_same, shaped_tI _, shaped_tI _, _, rfl, ?_⟩
        rw [eqv_tI]
        have hi := (List.getElem?_eq_some_iff.mp hx).1
        by_cases c : partOf o gp = []
        · rw [decide_eq_true c]
          refine iteF ⟨vs, gg.trans ne, ne _ _ c1, by omega, ?_⟩
          rw [take_snoc hgp, List.filter_append, List.filter_cons, if_neg (by simp [c]), List.filter_nil, List.append_nil]
          exact GapsV.mono ne.imS c3
        · rw [decide_eq_false c]
          have imr : ∀ o2, Im W.K (upd H'' e (.tup [])) (upd (upd H'' e (.tup [])) R o2) := fun o2 => im_mut (by rw [ne _ _ c1]; trivial)
          refine iteT ⟨_, rfl, vs, ne _ _ c1, sz_lt (by omega), vs ++ [.ref q], (gg.trans ne).mutS hR0, upd_same, by rw [List.length_append]; show vs.length + 1 ≤ _; omega, ?_⟩
          rw [take_snoc hgp, List.filter_append, List.filter_cons, if_pos (decide_eq_true c), List.filter_nil]
          exact paired_snoc (GapsV.mono (imr _) (GapsV.mono ne.imS c3)) ⟨q, w, rfl, imr _ _ _ (ne.tS y1), imr _ _ _ (ne.tS y2)⟩
      · obtain ⟨vs, gg, c1, c2, c3⟩ := q
        rw [List.take_of_length_le (by omega)] at c3
        exact k R vs H'' (g.trans gg) c1 c3 (by omega)
theorem ok__law_woven : Cal W 3 "_law_woven" ["_law_draw", "_law_parts"] (spWoven W.K) := by
  refine cal_mk (d := d_Lwoven) Z.g_law_woven Z.d_Lwoven sc_Lwoven bd_Lwoven (fun vs H Q E h => ?_) fun f cdv A outer s H vs Q E hr h => ?_
  · obtain ⟨_, _, _, _, _, rfl, _⟩ := h; rfl
  obtain ⟨d, lp, us, ps, N, rfl, hd, hN, hl, ht, hne, hul, hpl, k⟩ := h
  refine ⟨_, pss_cons (ps_par (i := 2) (j := 3) (by rfl) sc_Lwoven.nd rfl rfl (by decide) rfl rfl (pa_cons (pe_lc (own := [("_law_part", 4)]) (g := gName 4) rfl sc_Lwoven.nd (k_list W.K (pv 1)) (blkOk_by (own := [("_law_part", 4)]) (N := ["_law_draw", "_law_parts", "_law_left", "_law_found", "_law_part", "_law_own"]) (sc := defScope s_Lwoven) (by decide +kernel)) (fun _ _ _ _ _ => pg_name (i := 4) sc_Lwoven.nd rfl (Or.inl rfl)) (fun _ _ _ _ _ => pts_nil) (fun _ _ _ _ _ => (pe_callTy (k_list_of W.K) (by rfl) Z.m_list (by decide +kernel) (pa_cons (pv 4) pa_nil)))) (pa_cons (pe_tupF pa_nil) pa_nil)) (by rfl))
      (pss_cons (ps_while PassesOwn.never (pt_cmpR (k_op_neD W.K hr.units) (pv 2) (pe_lst pa_nil) (nomark _)) (pss_cons (ps_set (i := 5) sc_Lwoven.nd rfl (Or.inl rfl) (pe_cal (ok__law_of Z) (hr.mono (by decide)) (pa_cons (pv 0) (pa_cons (pv 2) pa_nil))))
      (pss_cons (ps_set (i := 3) sc_Lwoven.nd rfl (Or.inl rfl) (pe_op (k_op_catF W.K) (pv 3) (pe_tupF (pa_cons (k_popAt W.K (pv 5) pe_int) pa_nil))))
      (pss_one (ps_setLc (i := 2) (own := [("_law_part", 4)]) (g := gName 4) rfl sc_Lwoven.nd rfl rfl (sw_true rfl rfl rfl (by decide +kernel)) (k_list W.K (pv 2)) (blkOk_by (own := [("_law_part", 4)]) (N := ["_law_draw", "_law_parts", "_law_left", "_law_found", "_law_part", "_law_own"]) (sc := defScope s_Lwoven) (by decide +kernel)) (fun _ _ _ _ _ => pg_name (i := 4) sc_Lwoven.nd rfl (Or.inl rfl)) (fun _ _ _ _ _ => pts_one (pt_cmpR (k_op_neD W.K hr.units) (pv 4) (pe_lst pa_nil) (nomark _))) (fun _ _ _ _ _ => (pv 4)))))))
      (pss_one (ps_ret (pv 3)))), ?_⟩
  have hlt := Paired.length ht
  refine ⟨_, rfl, lp, rfl, ⟨_, hl⟩, fun D hD => ?_⟩
  refine lc_list (xs := us) (fun i H' => ∃ L : List (Addr × List Int), Same H H' ∧ H' D = some (.lst (refs L)) ∧ Lists H H' L ∧ L.length = i ∧ L.map Prod.snd = ps.take i ∧ ∀ x ∈ L, x.1 ≠ D) ⟨[], same_new hD _, upd_same, ⟨by simp, by simp⟩, rfl, rfl, by simp⟩ (fun i H' _ q => ?_) (fun i x H' hx q => ?_) (fun H' q => ?_)
  · obtain ⟨_, g, _⟩ := q
    exact g.seq hl
  · obtain ⟨L, g, e1, e2, e3, e4, e5⟩ := q
    obtain ⟨p, hp, q, rfl, hq⟩ := Paired.at ht hx
    have hi := (List.getElem?_eq_some_iff.mp hx).1
    refine ⟨rfl, _, rfl, q, _, rfl, .inr (g.tS hq), fun a ha => ?_⟩
    have n1 := same_new ha (.lst (p.map V.int))
    have aD : a ≠ D := fun e => by rw [e, e1] at ha; cases ha
    refine ⟨refs L, n1 _ _ e1, sz_lt (by unfold refs; rw [List.length_map]; omega), L ++ [(a, p)], (g.trans n1).mutS hD, ?_, ⟨?_, ?_⟩, by rw [List.length_append, e3]; rfl, ?_, ?_⟩
    · rw [upd_same]; unfold refs; rw [List.map_append]; rfl
    · rw [List.map_append]
      refine List.nodup_append.mpr ⟨e2.1, by simp, fun u hu v hv e => ?_⟩
      simp at hv
      obtain ⟨y, hy, rfl⟩ := List.mem_map.mp hu
      have := (e2.2 y hy).2
      rw [e, hv, ha] at this
      cases this
    · intro y hy
      rcases List.mem_append.mp hy with m | m
      · exact ⟨(e2.2 y m).1, by rw [upd_ne (e5 y m)]; exact n1 _ _ (e2.2 y m).2⟩
      · simp at m
        subst m
        exact ⟨same_free g ha, by rw [upd_ne aD, upd_same]⟩
    · rw [List.map_append, e4, take_snoc hp]; rfl
    · intro y hy
      rcases List.mem_append.mp hy with m | m
      · exact e5 y m
      · simp at m; rw [m]; exact aD
  · obtain ⟨L, g, e1, e2, e3, e4, e5⟩ := q
    rw [List.take_of_length_le (by omega)] at e4
    refine ⟨by show 0 ≤ sizeLine; decide, fun po oo hpo hoo => ⟨_, _, rfl, ?_⟩⟩
    have n1 := same_new hpo (.frz oo (.tup []))
    have g1 := g.trans n1
    have dne : ∀ {a : Addr}, H a = none → a ≠ d := fun {a} h e => by obtain ⟨kv, hk⟩ := hd.get; rw [← e, h] at hk; cases hk
    have D0 : H D = none := hD
    have htot : tot L = ps.flatten.length := by
      rw [← e4, List.length_flatten, List.map_map]
      rfl
    refine ⟨fun m σ H2 => ∃ (L : List (Addr × List Int)) (w : List Int) (la po : Addr) (w4 w5 : Option V), σ = [some (.ref d), some (.ref lp), some (.ref la), some (.ref po), w4, w5] ∧ But [d] H H2 ∧ DrawAt H2 d (N + w.length) ∧ H2 la = some (.lst (refs L)) ∧ Lists H H2 L ∧ H la = none ∧ FzT H2 po (w.map V.int) ∧
        (∀ x ∈ L, x.2 ≠ []) ∧ (∀ x ∈ L, x.1 ≠ la) ∧ (∀ w2, Wv (L.map Prod.snd) w2 → Wv ps (w ++ w2)) ∧ m = tot L ∧ w.length + tot L = ps.flatten.length ∧ L.length ≤ 121,
      ⟨_, L, [], D, po, _, _, rfl, g1.but _, hd.same g1, n1 _ _ e1, e2.mono (fun x _ o h => n1 _ _ h), D0, ⟨oo, hoo, upd_same⟩, (fun x hx => hne _ (by rw [← e4]; exact List.mem_map.mpr ⟨x, hx, rfl⟩)), e5, (fun w2 h => by rw [e4] at h; exact h), rfl, by rw [htot]; simp, by omega⟩, fun m σ H2 w => ?_⟩
    clear e1 e2 e3 e4 e5 n1 g1 htot g
    obtain ⟨L, w, la, po, w4, w5, rfl, b, dd, e1, e2, la0, e3, e4, e5, e6, hm, ht', hL⟩ := w
    refine ⟨_, rfl, by show 0 ≤ sizeLine; decide, fun e he => ?_⟩
    have ge := same_new he (.lst [])
    refine ⟨_, _, .lst (SqL.of (ge _ _ e1)) (dpLists fun x hx => ge _ _ (e2.2 x hx).2), .lst (SqL.of upd_same) .nil, lists_shaped L, by decide +kernel, _, rfl, ?_⟩
    have be := b.seq ge
    have de := dd.same ge
    have f1 := ge _ _ e1
    have f2 : Lists H _ L := e2.mono (fun x _ o h => ge _ _ h)
    have f3 := e3.same ge
    generalize upd H2 e (.lst []) = H4 at ge be de f1 f2 f3
    cases hLc : L with
    | nil =>
      subst hLc
      have e9 : (!(PyData.list (([] : List (Addr × List Int)).map fun x => PyData.list (pInts x.2))).eqv (PyData.list [])) = false := by decide +kernel
      rw [e9]
      refine iteF ⟨_, rfl, k w po H4 be (de.up ?_) ?_ f3⟩
      · have : tot [] = 0 := rfl
        omega
      · have := e6 [] .nil
        rwa [List.append_nil] at this
    | cons x0 L0 =>
      have e9 : (!(PyData.list ((x0 :: L0).map fun x => PyData.list (pInts x.2))).eqv (PyData.list [])) = true := by simp [PyData.eqv, PyData.eqvAll]
      rw [e9]
      have hLne : L ≠ [] := by rw [hLc]; simp
      clear hLc e9
      refine iteT ⟨fun σ' H2 => ∃ m', m' < m ∧ _, fun σ' H2 h => h, ?_⟩
      have hrl : (refs L).length = L.length := List.length_map _
      have ndd : ∀ {a : Addr} {u : HO}, H4 a = some u → (∀ kv, u ≠ .dK kv) → a ≠ d := fun {a u} h n e => by obtain ⟨kv, hk⟩ := de.get; rw [e, hk] at h; cases h; exact n _ rfl
      refine ⟨_, rfl, _, rfl, d, la, refs L, N + w.length, rfl, de, by omega, SqL.of f1, by unfold refs; simpa using hLne, by omega, fun i v H5 b5 d5 hv => ?_⟩
      have hv2 : L[i]?.map (fun x => V.ref x.1) = some v := by rw [← List.getElem?_map]; exact hv
      obtain ⟨x, hx, rfl⟩ := Option.map_eq_some_iff.mp hv2
      obtain ⟨A, B, rfl, hAl⟩ := split_at hx
      have hxm : x ∈ A ++ x :: B := by simp
      obtain ⟨a, p⟩ := x
      have hpne := e4 _ hxm
      cases p with
      | nil => exact absurd rfl hpne
      | cons y p =>
        have g1 := b5 _ _ (by simpa using ndd f1 (by intro _ e; cases e)) f1
        have g3 : FzT H5 po (w.map V.int) := f3.but b5 (fun c hc => by simp at hc; rw [hc]; obtain ⟨kv, hk⟩ := de.get; rw [hk]; trivial)
        have g2 : Lists H H5 (A ++ (a, y :: p) :: B) := f2.mono fun x hx o h => b5 _ _ (by have := (f2.2 x hx).1; simpa using dne this) h
        have ga := (g2.2 _ hxm).2
        have ga0 := (g2.2 _ hxm).1
        refine ⟨_, rfl, _, rfl, .inl ⟨rfl, _, SqL.of ga⟩, a, _, 0, 0, .int y, rfl, rfl, ga, by decide, by decide, seq0 _, rfl, ?_⟩
        have han : a ≠ la := e5 _ hxm
        have d6 : DrawAt (upd H5 a (.lst (((y :: p).map V.int).eraseIdx 0))) d (N + w.length + 1) := by
          obtain ⟨l', c', a', x1, x2, x3⟩ := d5
          exact ⟨l', c', a', by rw [upd_ne (dne ga0).symm]; exact x1, x2, x3⟩
        have b6 : But [d] H (upd H5 a (.lst (((y :: p).map V.int).eraseIdx 0))) := (be.tr b5).mut ga0
        have g1' : upd H5 a (.lst (((y :: p).map V.int).eraseIdx 0)) la = _ := (upd_ne han.symm).trans g1
        have g3' : FzT (upd H5 a (.lst (((y :: p).map V.int).eraseIdx 0))) po (w.map V.int) := g3.but (L := [a]) (fun c o hc h => by rw [upd_ne (by simpa using hc)]; exact h) (fun c hc => by simp at hc; rw [hc, ga]; trivial)
        have nd := g2.1
        rw [List.map_append, List.map_cons] at nd
        obtain ⟨nd1, nd2, nd3⟩ := List.nodup_append.mp nd
        obtain ⟨nd4, nd5⟩ := List.nodup_cons.mp nd2
        have g2' : Lists H (upd H5 a (.lst (((y :: p).map V.int).eraseIdx 0))) (A ++ (a, p) :: B) := by
          refine ⟨by rw [List.map_append, List.map_cons]; exact nd, fun x hx => ?_⟩
          rcases List.mem_append.mp hx with m | m
          · have := g2.2 x (by simp [m])
            exact ⟨this.1, (upd_ne (fun e => nd3 x.1 (List.mem_map.mpr ⟨x, m, rfl⟩) a (by simp) e)).trans this.2⟩
          · rcases List.mem_cons.mp m with m | m
            · subst m
              exact ⟨ga0, upd_same⟩
            · have := g2.2 x (by simp [m])
              exact ⟨this.1, (upd_ne (fun e => nd4 (List.mem_map.mpr ⟨x, m, e⟩))).trans this.2⟩
        generalize upd H5 a (.lst (((y :: p).map V.int).eraseIdx 0)) = H6 at d6 b6 g1' g3' g2'
        have hwl : w.length ≤ 120 := by omega
        refine catF_end g3' (by rw [List.length_map]; omega) fun q H7 g7 hq => ?_
        have d7 := d6.same g7
        have b7 := b6.seq g7
        have h1 := g7 _ _ g1'
        have h2 : Lists H H7 (A ++ (a, p) :: B) := g2'.mono fun x _ o h => g7 _ _ h
        have hrefs : refs (A ++ (a, y :: p) :: B) = refs (A ++ (a, p) :: B) := by unfold refs; rw [List.map_append, List.map_append]; rfl
        rw [hrefs] at h1
        refine ⟨_, rfl, la, rfl, ⟨_, SqL.of h1⟩, fun R hR => ?_⟩
        refine lcF_list (A ++ (a, p) :: B) (fun x => decide (x.2 ≠ [])) (fun x => V.ref x.1) hR (SqL.of h1) (by unfold refs; rw [List.length_map]) (by rw [List.length_append, List.length_cons] at hL ⊢; omega) (fun j v x hv hx2 H8 R' N' g8 hR' hN' => ?_) (fun H8 g8 hR8 => ?_)
        · have ev : v = .ref x.1 := by
            unfold refs at hv
            rw [List.getElem?_map, hx2] at hv
            cases hv
            rfl
          subst ev
          have hx3 := (h2.2 x (List.mem_of_getElem? hx2)).2
          refine ⟨rfl, _, rfl, by show 0 ≤ sizeLine; decide, fun e2 he2 => ?_⟩
          have ne := same_new he2 (.lst [])
          refine ⟨_, _, dp_lI (SqL.of (ne _ _ (g8 _ _ hx3))), dp_l0 upd_same, shaped_lI _, shaped_lI _, _, rfl, ?_⟩
          rw [eqv_lI]
          by_cases c : x.2 = []
          · rw [decide_eq_true c]
            exact iteF (hN' (decide_eq_false fun h => h c) _ ne)
          · rw [decide_eq_false c]
            exact iteT ⟨_, rfl, hR' (decide_eq_true c) _ ne⟩
        · have hRl : H R = none := by
            refine But.free b7 ?_ hR
            simp
            exact fun e => by obtain ⟨kv, hk⟩ := d7.get; rw [e, hk] at hR; cases hR
          have hwlen : (w ++ [y]).length = w.length + 1 := by rw [List.length_append]; rfl
          have hta : tot (A ++ (a, y :: p) :: B) = tot (A ++ (a, p) :: B) + 1 := by
            rw [tot_app, tot_app]
            show tot A + ((y :: p).length + tot B) = tot A + (p.length + tot B) + 1
            rw [List.length_cons]
            omega
          have htf := tot_filter (A ++ (a, p) :: B)
          refine ⟨tot ((A ++ (a, p) :: B).filter fun x => decide (x.2 ≠ [])), by omega, (A ++ (a, p) :: B).filter fun x => decide (x.2 ≠ []), w ++ [y], R, q, _, _, rfl, b7.seq g8, (d7.same g8).up (by omega), hR8, ⟨?_, ?_⟩, hRl, ?_, ?_, ?_, ?_, rfl, by omega, ?_⟩
          · have : ((A ++ (a, p) :: B).filter fun x => decide (x.2 ≠ [])).Sublist (A ++ (a, p) :: B) := List.filter_sublist
            exact (h2.1).sublist (this.map Prod.fst)
          · intro x hx
            have hx2 := (List.mem_filter.mp hx).1
            exact ⟨(h2.2 x hx2).1, g8 _ _ (h2.2 x hx2).2⟩
          · have := hq.same g8
            rw [List.map_append]
            exact this
          · intro x hx
            exact of_decide_eq_true (List.mem_filter.mp hx).2
          · intro x hx e
            have hx2 := (List.mem_filter.mp hx).1
            have := (h2.2 x hx2).2
            rw [e, hR] at this
            cases this
          · intro w2 hw2
            rw [List.append_assoc]
            refine e6 (y :: w2) ?_
            rw [List.map_append, List.map_cons]
            refine .step ?_
            have hA : A.filter (fun x => decide (x.2 ≠ [])) = A := List.filter_eq_self.mpr fun x hx => decide_eq_true (e4 x (by simp [hx]))
            have hB : B.filter (fun x => decide (x.2 ≠ [])) = B := List.filter_eq_self.mpr fun x hx => decide_eq_true (e4 x (by simp [hx]))
            rw [List.filter_append, List.filter_cons, hA, hB] at hw2
            by_cases c : p = []
            · rw [if_pos c]
              rw [if_neg (by simp [c]), List.map_append] at hw2
              exact hw2
            · rw [if_neg c]
              rw [if_pos (decide_eq_true c), List.map_append] at hw2
              exact hw2
          · have := List.length_filter_le (fun x : Addr × List Int => decide (x.2 ≠ [])) (A ++ (a, p) :: B)
            rw [List.length_append, List.length_cons] at this hL
            omega
end
end Sl
/-! SlL4 -/
namespace Sl
open PySem PySem.Spec PyProof.Rows L2
theorem sc_Lpairs : FnScope ["_law_mine", "_law_its", "_law_spots", "_law_place", "_law_j", "_law_k"] ["_law_mine", "_law_its"] (defScope s_Lpairs) := ⟨rfl, rfl, rfl, by decide +kernel, rfl, by decide +kernel, by decide +kernel⟩
theorem bd_Lpairs : Bnd d_Lpairs ["_law_mine", "_law_its"] := fun _ _ _ _ _ _ us hl => match us, hl with | [_, _], _ => rfl
theorem sc_Lways : FnScope ["_law_parts", "_law_found", "_law_many", "_law_part", "_law_k"] ["_law_parts"] (defScope s_Lways) := ⟨rfl, rfl, rfl, by decide +kernel, rfl, by decide +kernel, by decide +kernel⟩
theorem bd_Lways : Bnd d_Lways ["_law_parts"] := fun _ _ _ _ _ _ us hl => match us, hl with | [_], _ => rfl
theorem sc_Lheap : FnScope ["_law_text", "_law_places", "_law_known", "_law_fresh", "_law_mine", "_law_at", "_law_row", "_law_place", "_law_its"] ["_law_text", "_law_places"] (defScope s_Lheap) := ⟨rfl, rfl, rfl, by decide +kernel, rfl, by decide +kernel, by decide +kernel⟩
theorem bd_Lheap : Bnd d_Lheap ["_law_text", "_law_places"] := fun _ _ _ _ _ _ us hl => match us, hl with | [_, _], _ => rfl
theorem _root_.L2.Room.units65 {k : Nat} {A : Around} (r : Room k A) : A.units + 65 < PySem.cLine := by have := r.un; omega
def scLk : Scope := { kind := .function, names := [(".0", .local), ("_law_k", .cell), ("len", .globalImplicit), ("range", .globalImplicit), ("_law_spots", .cell)], isGenerator := false, isCoroutine := false }
def spPairs (K : PySem.W.Frag) : Sp := fun vs H Q _ => ∃ (p1 p2 : Addr) (o1 o2 : List Int), vs = [.ref p1, .ref p2] ∧ SqT K H p1 (o1.map V.int) ∧ FzT H p2 (o2.map V.int) ∧ (∀ x ∈ o1, x ∈ o2) ∧ o1.length ≤ 120 ∧ ∀ H', Same H H' → Q (.int ((pairs o1 o2 : Nat) : Int)) H'
def spWays (K : PySem.W.Frag) : Sp := fun vs H Q _ => ∃ (lp : Addr) (us : List V) (ps : List (List Int)), vs = [.ref lp] ∧ SqL K H lp us ∧ Tups K H us ps ∧ (ps.map List.length).sum ≤ 120 ∧ us.length ≤ 1000 ∧ ∀ H', Same H H' → Q (.int ((lw 0 (ps.map List.length) : Nat) : Int)) H'
theorem bin_step (M k : Nat) : bin M (k + 1) * (k + 1) = bin M k * (M + k + 1) := by
  have h1 := bin_fac M (k + 1)
  have h2 := bin_fac M k
  have e : fac (M + (k + 1)) = fac (M + k) * (M + k + 1) := rfl
  rw [e, ← h2] at h1
  have e2 : fac (k + 1) = fac k * (k + 1) := rfl
  rw [e2] at h1
  have h3 : bin M (k + 1) * (k + 1) * (fac M * fac k) = bin M k * (M + k + 1) * (fac M * fac k) := by
    calc bin M (k + 1) * (k + 1) * (fac M * fac k) = bin M (k + 1) * (fac M * (fac k * (k + 1))) := by simp only [Nat.mul_assoc, Nat.mul_comm, Nat.mul_left_comm]
      _ = bin M k * (fac M * fac k) * (M + k + 1) := h1
      _ = bin M k * (M + k + 1) * (fac M * fac k) := by simp only [Nat.mul_assoc, Nat.mul_comm, Nat.mul_left_comm]
  exact Nat.eq_of_mul_eq_mul_right (Nat.mul_pos (fac_pos M) (fac_pos k)) h3
theorem lw_pos : ∀ (ks : List Nat) (M : Nat), 0 < lw M ks
  | [], _ => Nat.one_pos
  | k :: ks, M => Nat.mul_pos (bin_pos _ _) (lw_pos ks _)
theorem lw_le (ks : List Nat) : lw 0 ks ≤ fac ks.sum := by
  have := lw_fac ks 0
  rw [Nat.zero_add] at this
  rw [← this]
  exact Nat.le_mul_of_pos_right _ (Nat.mul_pos Nat.one_pos (facs_pos ks))
theorem take_from (L : List Int) : ∀ k : Nat, k ≤ L.length → L.take k = (fromTo 0 k).map fun j => L.getD j.toNat 0
  | 0, _ => rfl
  | k + 1, h => by
    rw [get_snoc (getD_of (by omega)), take_from L k (by omega)]
    unfold fromTo
    rw [List.range_succ, List.map_append, List.map_append]
    congr 1
    show [L.getD k 0] = [L.getD (0 + (k : Int)).toNat 0]
    rw [show (0 + (k : Int)).toNat = k by omega]
theorem pairsAt_eq (L : List Int) (k : Nat) (h : k ≤ L.length) : ((fromTo 0 k).filter fun j => decide (L.getD k 0 < L.getD j.toNat 0)).length = pairsAt L k := by
  unfold pairsAt
  rw [take_from L k h, List.filter_map, List.length_map]
  rfl
section
variable {W : Wd} (Z : Hd W)
include Z
theorem ok__law_pairs : Cal W 1 "_law_pairs" ["_law_mine", "_law_its"] (spPairs W.K) := by
  refine cal_mk (d := d_Lpairs) Z.g_law_pairs Z.d_Lpairs sc_Lpairs bd_Lpairs (fun vs H Q E h => ?_) fun f cdv A outer s H vs Q E hr h => ?_
  · obtain ⟨_, _, _, _, rfl, _⟩ := h; rfl
  obtain ⟨p1, p2, o1, o2, rfl, h1, h2, hs, hl, k⟩ := h
  refine ⟨_, pss_cons (ps_set (i := 2) sc_Lpairs.nd rfl (Or.inr rfl) (pe_lc (own := [("_law_place", 3)]) (g := gName 3) rfl sc_Lpairs.nd (k_tup W.K (pv 0)) (blkOk_by (own := [("_law_place", 3)]) (N := ["_law_mine", "_law_its", "_law_spots", "_law_place", "_law_j", "_law_k"]) (sc := defScope s_Lpairs) (by decide +kernel)) (fun _ _ _ _ _ => pg_name (i := 3) sc_Lpairs.nd rfl (Or.inl rfl)) (fun _ _ _ _ _ => pts_nil) (fun _ _ _ _ _ => (pe_tindexF (pv 1) (pv 3)))))
      (pss_one (ps_ret (pe_callB (k_sum W.K) (by rfl) Z.m_sum (by decide +kernel) (pa_cons (pe_lc (own := [("_law_k", 5)]) (g := gName 5) rfl sc_Lpairs.nd (pi_range1 (by rfl) Z.m_range (pa_cons (pe_callB (k_len_seq W.K) (by rfl) Z.m_len (by decide +kernel) (pa_cons (pv 2) pa_nil)) pa_nil)) (blkOk_by (own := [("_law_k", 5)]) (N := ["_law_mine", "_law_its", "_law_spots", "_law_place", "_law_j", "_law_k"]) (sc := defScope s_Lpairs) (by decide +kernel)) (fun _ _ _ _ _ => pg_name (i := 5) sc_Lpairs.nd rfl (Or.inr rfl)) (fun _ _ _ _ _ => pts_nil) (fun _ _ _ _ _ => (pe_callB (k_len_seq W.K) (by rfl) Z.m_len (by decide +kernel) (pa_cons (pe_lc (own := [("_law_j", 4)]) (g := gName 4) rfl sc_Lpairs.nd (pi_range1 (by rfl) Z.m_range (pa_cons (pv 5) pa_nil)) (blkOk_by (own := [("_law_j", 4)]) (N := ["_law_mine", "_law_its", "_law_spots", "_law_place", "_law_j", "_law_k"]) (sc := scLk) (by decide +kernel)) (fun _ _ _ _ _ => pg_name (i := 4) sc_Lpairs.nd rfl (Or.inl rfl)) (fun _ _ _ _ _ => pts_one (pt_cmpR op_gt (pe_ix (k_ix_list W.K) (pv 2) (pv 4) (fun _ _ => rfl)) (pe_ix (k_ix_list W.K) (pv 2) (pv 5) (fun _ _ => rfl)) (nomark _))) (fun _ _ _ _ _ => pe_int)) pa_nil)))) pa_nil)))), ?_⟩
  refine ⟨_, rfl, p1, rfl, ⟨_, h1⟩, fun D hD => ?_⟩
  refine lcF_tup o1 (fun _ => true) (fun x => .int ((spotOf o2 x : Nat) : Int)) hD h1 (by rw [List.length_map]) (by omega) (fun i v y hv hy H2 R N g2 hR hN => ?_) (fun H2 g2 hD2 => ?_)
  · obtain rfl := mapI2 hv hy
    have hsp := spot_get (hs y (List.mem_of_getElem? hy))
    exact ⟨rfl, _, rfl, p2, o2, rfl, h2.same g2, _, rfl, y, spotOf o2 y, rfl, h2.same g2, hsp.1, hsp.2, hR rfl _ (Same.refl _)⟩
  · rw [filter_tt] at hD2
    have hL0 : H2 D = some (.lst ((o1.map fun x => ((spotOf o2 x : Nat) : Int)).map V.int)) := by rw [hD2, List.map_map]; rfl
    have hlen0 : (o1.map fun x => ((spotOf o2 x : Nat) : Int)).length = o1.length := List.length_map _
    have hpairs : pairs o1 o2 = inv (o1.map fun x => ((spotOf o2 x : Nat) : Int)) := rfl
    generalize (o1.map fun x => ((spotOf o2 x : Nat) : Int)) = L at hL0 hlen0 hpairs
    refine ⟨_, rfl, D, _, rfl, .inl (SqL.of hL0), _, rfl, by omega, by rw [List.length_map]; omega, ?_⟩
    rw [List.length_map, show ((L.length : Nat) : Int).toNat = L.length by omega]
    refine fun D2 hD20 => ?_
    refine lcF_range (lo := 0) (n := L.length) (fun _ => true) (fun k => .int ((pairsAt L k.toNat : Nat) : Int)) hD20 (by omega) (fun i hi H3 R N g3 hR hN => ?_) (fun H3 g3 hD3 => ?_)
    · refine ⟨rfl, _, rfl, _, rfl, by omega, by omega, fun D4 hD4 => ?_⟩
      rw [show (0 + ((i : Nat) : Int)).toNat = i by omega]
      have hL3 := g3 _ _ hL0
      have hat : ∀ j : Nat, j < L.length → atI (L.map V.int) (0 + (j : Int)) = some (.int (L.getD j 0)) := fun j hj => by
        have := atI_nat (xs := L.map V.int) (j := j) (v := .int (L.getD j 0)) (by rw [List.getElem?_map, getD_of hj]; rfl)
        rwa [show ((j : Nat) : Int) = 0 + (j : Int) by omega] at this
      refine lcF_range (lo := 0) (n := i) (fun j => decide (L.getD i 0 < L.getD j.toNat 0)) (fun _ => .int 1) hD4 (by omega) (fun j hj H5 R5 N5 g5 hR5 hN5 => ?_) (fun H5 g5 hD5 => ?_)
      · have hL5 := SqL.of (K := W.K) (g5 _ _ hL3)
        refine ⟨rfl, _, rfl, _, rfl, D, _, _, _, rfl, rfl, hL5, hat j (by omega), _, rfl, _, rfl, D, _, _, _, rfl, rfl, hL5, hat i hi, _, _, rfl, rfl, _, rfl, ?_⟩
        have e : (0 + ((j : Nat) : Int)).toNat = j := by omega
        rw [e] at hR5 hN5
        by_cases c : L.getD i 0 < L.getD j 0
        · rw [decide_eq_true c]
          exact iteT (hR5 (decide_eq_true c) _ (Same.refl _))
        · rw [decide_eq_false c]
          exact iteF (hN5 (decide_eq_false c) _ (Same.refl _))
      · refine ⟨D4, _, rfl, .inl (SqL.of hD5), ?_⟩
        rw [List.length_map, pairsAt_eq L i (by omega)]
        have := hR rfl H5 g5
        rw [show (0 + ((i : Nat) : Int)).toNat = i by omega] at this
        exact this
    · rw [filter_tt] at hD3
      refine ⟨D2, (fromTo 0 L.length).map fun k => ((pairsAt L k.toNat : Nat) : Int), rfl, SqL.of (by rw [hD3, List.map_map]; rfl), ?_⟩
      have e : ((fromTo 0 L.length).map fun k => ((pairsAt L k.toNat : Nat) : Int)).sum = ((pairs o1 o2 : Nat) : Int) := by
        rw [hpairs]
        have h := pairs_law L L.length (Nat.le_refl _)
        rw [List.take_length] at h
        rw [← h, sum_cast]
        unfold fromTo
        rw [List.map_map]
        congr 1
        refine List.map_congr_left fun i _ => ?_
        show ((pairsAt L (0 + (i : Int)).toNat : Nat) : Int) = _
        rw [show (0 + (i : Int)).toNat = i by omega]
      rw [e]
      exact k H3 (g2.trans g3)
theorem ok__law_ways : Cal W 1 "_law_ways" ["_law_parts"] (spWays W.K) := by
  refine cal_mk (d := d_Lways) Z.g_law_ways Z.d_Lways sc_Lways bd_Lways (fun vs H Q E h => ?_) fun f cdv A outer s H vs Q E hr h => ?_
  · obtain ⟨_, _, _, rfl, _⟩ := h; rfl
  obtain ⟨lp, us, ps, rfl, hl, ht, hsum, hul, k⟩ := h
  refine ⟨_, pss_cons (ps_asg (pe_tup (pa_cons pe_int (pa_cons pe_int pa_nil))) (pg_tup rfl (pgs_cons (pg_name (i := 1) sc_Lways.nd rfl (Or.inl rfl)) (pgs_cons (pg_name (i := 2) sc_Lways.nd rfl (Or.inl rfl)) pgs_nil))))
      (pss_cons (ps_for PassesOwn.never rfl (k_list W.K (pv 0)) (pg_name (i := 3) sc_Lways.nd rfl (Or.inl rfl)) (pss_one (ps_for PassesOwn.never rfl (pi_range1 (by rfl) Z.m_range (pa_cons (pe_callB (k_len_seq W.K) (by rfl) Z.m_len (by decide +kernel) (pa_cons (pv 3) pa_nil)) pa_nil)) (pg_name (i := 4) sc_Lways.nd rfl (Or.inl rfl)) (pss_cons (ps_set (i := 2) sc_Lways.nd rfl (Or.inl rfl) (pe_op op_add (pv 2) pe_int))
      (pss_one (ps_set (i := 1) sc_Lways.nd rfl (Or.inl rfl) (pe_op op_fdivW (pe_op op_mulW (pv 1) (pv 2)) (pe_op op_add (pv 4) pe_int))))))))
      (pss_one (ps_ret (pv 1)))), ?_⟩
  have hlt := Paired.length ht
  refine ⟨by show 2 ≤ sizeLine; decide, fun t ht0 => ⟨t, _, rfl, SqT.of upd_same, rfl, _, _, rfl, _, _, rfl, rfl, ?_⟩⟩
  have n1 := same_new ht0 (.tup [.int 1, .int 0])
  generalize upd H t (.tup [.int 1, .int 0]) = H1 at n1
  have hT : lw 0 (ps.map List.length) < 2 ^ 900 := Nat.lt_of_le_of_lt (lw_le _) (fac_lt (by omega))
  have hl1 := n1.seq hl
  refine ⟨_, rfl, lp, rfl, ⟨_, hl1⟩, for_list (xs := us) (fun i σ H' => ∃ (F M : Nat) (w3 w4 : Option V), σ = [some (.ref lp), some (.int (F : Nat)), some (.int (M : Nat)), w3, w4] ∧ Same H1 H' ∧ M + ((ps.map List.length).drop i).sum = (ps.map List.length).sum ∧ F * lw M ((ps.map List.length).drop i) = lw 0 (ps.map List.length))
    ⟨1, 0, _, _, rfl, Same.refl _, by rw [List.drop_zero, Nat.zero_add], by rw [List.drop_zero, Nat.one_mul]⟩ (fun i σ H' _ w => ?_) (fun i x σ H' hx w => ?_) (fun σ H' w => ?_)⟩
  · obtain ⟨_, _, _, _, _, g, _⟩ := w
    exact g.seq hl1
  · obtain ⟨F, M, w3, w4, rfl, g, hM, hF⟩ := w
    obtain ⟨p, hp, q, rfl, hq⟩ := Paired.at ht hx
    have hi := (List.getElem?_eq_some_iff.mp hp).1
    have hdr : (ps.map List.length).drop i = p.length :: (ps.map List.length).drop (i + 1) := by
      have h2 : i < (ps.map List.length).length := by rw [List.length_map]; exact hi
      rw [← List.getElem_cons_drop (h := h2), List.getElem_map, (List.getElem?_eq_some_iff.mp hp).2]
    rw [hdr, List.sum_cons] at hM
    rw [hdr] at hF
    have hF' : F * (bin M p.length * lw (M + p.length) ((ps.map List.length).drop (i + 1))) = lw 0 (ps.map List.length) := hF
    have hFle : F ≤ lw 0 (ps.map List.length) := by
      rw [← hF']
      exact Nat.le_mul_of_pos_right _ (Nat.mul_pos (bin_pos _ _) (lw_pos _ _))
    have hq' := g.tS (n1.tS hq)
    refine ⟨_, rfl, q, _, rfl, .inr hq', _, rfl, by omega, by rw [List.length_map]; omega, ?_⟩
    rw [List.length_map, show ((p.length : Nat) : Int).toNat = p.length by omega]
    refine for_range (fun j σ H2 => ∃ (w4 : Option V), σ = [some (.ref lp), some (.int ((F * bin M j : Nat) : Int)), some (.int ((M + j : Nat) : Int)), some (.ref q), w4] ∧ Same H1 H2) ⟨_, by rw [bin_zero_r, Nat.mul_one]; rfl, g⟩ (fun j σ H2 hj w => ?_) (fun σ H2 w => ?_)
    · obtain ⟨w4, rfl, g2⟩ := w
      have hb : bin M j < 2 ^ 900 := Nat.lt_of_le_of_lt (bin_le _ _) (fac_lt (by omega))
      refine ⟨_, rfl, _, _, rfl, rfl, ?_⟩
      refine ⟨_, rfl, _, rfl, _, _, rfl, rfl, wide_mul (a := 1800) (b := 900) ?_ (by show _ < 2 ^ 900; exact Nat.lt_of_lt_of_le (by show _ < 2 ^ 10; omega) (Nat.pow_le_pow_right (by decide) (by decide))) (by decide) (by decide) (by decide), _, rfl, _, _, rfl, rfl, _, _, rfl, rfl, wide_div (b := 900) (by omega) (Nat.lt_of_lt_of_le (by show _ < 2 ^ 10; omega) (Nat.pow_le_pow_right (by decide) (by decide))) (by decide) (by decide), some (.int (0 + (j : Nat))), ?_, g2⟩
      · rw [Int.natAbs_natCast, show 1800 = 900 + 900 from rfl, Nat.pow_add]
        exact Nat.mul_lt_mul'' (Nat.lt_of_le_of_lt hFle hT) hb
      · have e : (((F * bin M j : Nat) : Int) * (((M + j : Nat) : Int) + 1)) / (0 + (j : Nat) + 1) = ((F * bin M (j + 1) : Nat) : Int) := by
          have h1 : ((F * bin M j : Nat) : Int) * (((M + j : Nat) : Int) + 1) = ((F * bin M (j + 1) : Nat) : Int) * ((j : Int) + 1) := by
            have := bin_step M j
            have h2 : F * bin M j * (M + j + 1) = F * bin M (j + 1) * (j + 1) := by rw [Nat.mul_assoc, ← this, Nat.mul_assoc]
            have h3 := congrArg (fun n : Nat => (n : Int)) h2
            simp only [Int.natCast_mul, Int.natCast_add] at h3 ⊢
            exact h3
          rw [h1, Int.zero_add]
          exact Int.mul_ediv_cancel _ (by omega)
        show [some (V.ref lp), some (V.int ((((F * bin M j : Nat) : Int) * (((M + j : Nat) : Int) + 1)) / (0 + (j : Nat) + 1))), some (V.int (((M + j : Nat) : Int) + 1)), some (V.ref q), some (V.int (0 + (j : Nat)))] = _
        rw [e]
        rfl
    · obtain ⟨w4, rfl, g2⟩ := w
      exact ⟨F * bin M p.length, M + p.length, _, _, rfl, g2, by omega, by rw [Nat.mul_assoc]; exact hF'⟩
  · obtain ⟨F, M, w3, w4, rfl, g, hM, hF⟩ := w
    rw [List.drop_of_length_le (by rw [List.length_map]; omega)] at hF
    have hF' : F * 1 = lw 0 (ps.map List.length) := hF
    rw [Nat.mul_one] at hF'
    rw [hF']
    exact ⟨_, rfl, k H' (n1.trans g)⟩
end
end Sl
/-! SlL5 -/
namespace Sl
open PySem PySem.Spec PyProof.Rows L2
/-! ### the law's heap of exchanges -/
/-- the orders of one forest -/
def Alike (n : Nat) (o w : List Int) : Prop := w.Nodup ∧ (∀ x, x ∈ w ↔ x ∈ o) ∧ ∀ g ∈ gapsOf (n : Int) (compl n o), tr (part w g.1 g.2) = tr (part o g.1 g.2)
def Far (n : Nat) (a : List Int) (x y : Int) : Prop := ∃ m, 0 ≤ m ∧ m < (n : Int) ∧ m ∉ a ∧ Btw m x y
def spHeap (K : PySem.W.Frag) : Sp := fun vs H Q _ => ∃ (z : Str) (po : Addr) (o : List Int) (E : List (List Int)), vs = [.str z, .ref po] ∧ GoodW z ∧ SqT K H po (o.map V.int) ∧ o.Nodup ∧ (∀ x ∈ o, 0 ≤ x ∧ x < (z.cps.size : Int)) ∧ o.length ≤ 20 ∧ E.Nodup ∧ E.length ≤ 10000 ∧ (∀ w, w ∈ E ↔ Alike z.cps.size o w) ∧
  ∀ H', Same H H' → Q (.int (E.length : Nat)) H'
theorem slA_end {K : PySem.W.Frag} {H : Hp} {a : Addr} {xs : List V} {lo hi : Option Int} {R : VK} (hx : SqT K H a xs) (hR : ∀ q H2, Same H H2 → SqT K H2 q (cutV xs lo hi) → R (.ref q) H2) : rSlA K (.ref a) lo hi H R := by
  refine ⟨a, xs, rfl, hx, fun h => ?_, fun _ p hp => hR p _ (same_new hp _) (SqT.of upd_same)⟩
  refine hR a H (Same.refl H) ?_
  have : cutV xs lo hi = xs := by
    unfold cutV
    rw [h.1, h.2]
    simp
  rw [this]
  exact hx
theorem catA_end {K : PySem.W.Frag} {H : Hp} {a b : Addr} {xs ys : List V} {R : VK} (hx : SqT K H a xs) (hy : SqT K H b ys) (hl : xs.length + ys.length ≤ 1000) (hR : ∀ q H2, Same H H2 → SqT K H2 q (xs ++ ys) → R (.ref q) H2) : rCatA K (.ref a) (.ref b) H R := by
  refine ⟨a, b, xs, ys, rfl, rfl, hx, hy, sz_of (by omega), fun e => ?_, fun _ e => ?_, fun _ _ p hp => hR p _ (same_new hp _) (SqT.of upd_same)⟩
  · exact hR b H (Same.refl H) (by rw [e]; exact hy)
  · exact hR a H (Same.refl H) (by rw [e, List.append_nil]; exact hx)
theorem cut_to (xs : List V) (k : Nat) (h : k ≤ xs.length) : cutV xs none (some (k : Int)) = xs.take k := by
  unfold cutV
  rw [HT.sIx_none, HT.sIx_nat, List.drop_zero, Nat.sub_zero, Nat.min_eq_left h]
theorem cut_from (xs : List V) (k : Nat) (h : k ≤ xs.length) : cutV xs (some (k : Int)) none = xs.drop k := by
  unfold cutV
  rw [HT.sIx_none, HT.sIx_nat, Nat.min_eq_left h]
  rw [List.take_of_length_le]
  rw [List.length_drop]
  exact Nat.le_refl _
/-- the row at hand, and two of it -/
def rowOf (n : Nat) (a : List Int) : List Int := (fromTo (-1) (n + 2)).filter fun y => decide (y ∉ a)
theorem row_lt (n : Nat) (a : List Int) : (rowOf n a).Pairwise (· < ·) := by
  refine List.Pairwise.filter _ ?_
  unfold fromTo
  rw [List.pairwise_map]
  exact List.pairwise_lt_range.imp fun h => by omega
theorem mem_row {n : Nat} {a : List Int} {y : Int} : y ∈ rowOf n a ↔ (-1 ≤ y ∧ y ≤ (n : Int)) ∧ y ∉ a := by
  unfold rowOf
  rw [List.mem_filter, mem_fromTo, decide_eq_true_eq]
  constructor
  · rintro ⟨h1, h2⟩; exact ⟨⟨h1.1, by omega⟩, h2⟩
  · rintro ⟨h1, h2⟩; exact ⟨⟨h1.1, by omega⟩, h2⟩
theorem far_iff {n : Nat} {a : List Int} {x y : Int} (hx : 0 ≤ x ∧ x < (n : Int)) (hy : 0 ≤ y ∧ y < (n : Int)) {i j : Nat} (h1 : (rowOf n a)[i]? = some x) (h2 : (rowOf n a)[j]? = some y) :
    (1 < (if ((i : Int) - (j : Int)) < 0 then -((i : Int) - (j : Int)) else (i : Int) - (j : Int))) ↔ Far n a x y := by
  have hp := List.pairwise_iff_getElem.mp (row_lt n a)
  obtain ⟨hi, e1⟩ := List.getElem?_eq_some_iff.mp h1
  obtain ⟨hj, e2⟩ := List.getElem?_eq_some_iff.mp h2
  have get : ∀ {k : Nat} (hk : k < (rowOf n a).length), (-1 ≤ (rowOf n a)[k] ∧ (rowOf n a)[k] ≤ (n : Int)) ∧ (rowOf n a)[k] ∉ a := fun hk => mem_row.mp (List.getElem_mem hk)
  constructor
  · intro h
    by_cases c : i + 1 < j
    · have a1 := hp i (i + 1) hi (by omega) (by omega)
      have a2 := hp (i + 1) j (by omega) hj c
      rw [e1] at a1
      rw [e2] at a2
      exact ⟨_, by omega, by omega, (get (by omega : i + 1 < _)).2, .inl ⟨a1, a2⟩⟩
    · have c2 : j + 1 < i := by
        by_cases d : ((i : Int) - (j : Int)) < 0
        · rw [if_pos d] at h; omega
        · rw [if_neg d] at h; omega
      have a1 := hp j (j + 1) hj (by omega) (by omega)
      have a2 := hp (j + 1) i (by omega) hi c2
      rw [e2] at a1
      rw [e1] at a2
      exact ⟨_, by omega, by omega, (get (by omega : j + 1 < _)).2, .inr ⟨a1, a2⟩⟩
  · rintro ⟨m, m1, m2, m3, m4⟩
    obtain ⟨k, hk⟩ := List.getElem?_of_mem (mem_row.mpr ⟨⟨by omega, by omega⟩, m3⟩ : m ∈ rowOf n a)
    obtain ⟨hk1, hk2⟩ := List.getElem?_eq_some_iff.mp hk
    have mono : ∀ {u v : Nat} (hu : u < (rowOf n a).length) (hv : v < (rowOf n a).length), (rowOf n a)[u] < (rowOf n a)[v] → u < v := fun {u v} hu hv h => by
      by_cases c : u < v
      · exact c
      · exfalso
        by_cases d : u = v
        · subst d; omega
        · have := hp v u hv hu (by omega); omega
    rcases m4 with ⟨q1, q2⟩ | ⟨q1, q2⟩
    · have r1 := mono hi hk1 (by rw [e1, hk2]; exact q1)
      have r2 := mono hk1 hj (by rw [e2, hk2]; exact q2)
      rw [if_pos (by omega)]
      omega
    · have r1 := mono hj hk1 (by rw [e2, hk2]; exact q1)
      have r2 := mono hk1 hi (by rw [e1, hk2]; exact q2)
      rw [if_neg (by omega)]
      omega
theorem alike_swap {n : Nat} {o a b : List Int} {x y : Int} (h : Alike n o (a ++ x :: y :: b)) (f : Far n a x y) : Alike n o (a ++ y :: x :: b) := by
  obtain ⟨h1, h2, h3⟩ := h
  obtain ⟨m, _, _, m3, m4⟩ := f
  have hperm : (a ++ y :: x :: b).Perm (a ++ x :: y :: b) := List.Perm.append_left _ (List.Perm.swap x y b)
  exact ⟨hperm.nodup_iff.mpr h1, fun z => by rw [hperm.mem_iff]; exact h2 z, fun g hg => by rw [swap_parts h2 m3 m4 g hg]; exact h3 g hg⟩
theorem TupsN.mono {K : PySem.W.Frag} {H H' : Hp} {us : List V} {ps : List (List Int)} (e : Im K H H') (h : Tups K H us ps) : Tups K H' us ps := Paired.mapP h fun v p ⟨q, h1, h2⟩ => ⟨q, h1, e _ _ h2⟩
theorem dpTups {K : PySem.W.Frag} {H : Hp} : ∀ {us : List V} {ps : List (List Int)}, Tups K H us ps → DpAll K H us (ps.map fun p => PyData.tuple (pInts p))
  | _, _, .nil => .nil
  | _, _, .cons ⟨q, e, h⟩ r => by
    subst e
    exact .cons (dp_tI h) (dpTups r)
theorem tups_shaped (ps : List (List Int)) : SeqAt.shaped (.list (ps.map fun p => PyData.tuple (pInts p))) = true := by
  have h1 : PyData.canLayAll0 (ps.map fun p => PyData.tuple (pInts p)) = true := by
    induction ps with
    | nil => simp [PyData.canLayAll0]
    | cons a r ih => simp only [List.map_cons, PyData.canLayAll0, PyData.canLay0, pInts_lay, ih, Bool.and_self]
  have h2 : PyData.depthAll (ps.map fun p => PyData.tuple (pInts p)) ≤ 3 := by
    clear h1
    induction ps with
    | nil => simp [PyData.depthAll]
    | cons a r ih =>
      have := pInts_depth a
      simp only [List.map_cons, PyData.depthAll, PyData.depth]
      omega
  exact shaped_of (by simp only [PyData.canLay0]; exact h1) (by simp only [PyData.depth]; omega)
theorem tups_any (ps : List (List Int)) (w : List Int) : ((ps.map fun p => PyData.tuple (pInts p)).any fun z => PyData.eqv z (.tuple (pInts w))) = decide (w ∈ ps) := by
  rw [Bool.eq_iff_iff, List.any_map, List.any_eq_true, decide_eq_true_eq]
  constructor
  · rintro ⟨p, hp, h⟩
    have : PyData.eqv (.tuple (pInts p)) (.tuple (pInts w)) = true := h
    rw [eqv_tI, decide_eq_true_eq] at this
    rw [← this]
    exact hp
  · intro h
    exact ⟨w, h, by show PyData.eqv (.tuple (pInts w)) (.tuple (pInts w)) = true; rw [eqv_tI]; exact decide_eq_true rfl⟩
theorem idxI {K : PySem.W.Frag} {H : Hp} {l : Addr} {ns : List Int} {j : Nat} {x : Int} {Q : VK} (hl : SqL K H l (ns.map V.int)) (hj : ns[j]? = some x) (hn : ∀ m, m < j → ns[m]? ≠ some x) (q : Q (.int (j : Nat)) H) : rIndex K (.ref l) [.int x] H Q := by
  refine ⟨l, _, _, j, .int x, rfl, rfl, hl, rfl, flat_ints _, by rw [List.getElem?_map, hj]; rfl, beq_self_eq_true _, fun m z' hm hz' => ?_, q⟩
  obtain ⟨y, hy, rfl⟩ := mapI hz'
  refine beq_eq_false_iff_ne.mpr fun e => ?_
  cases e
  exact hn m hm hy
section
variable {W : Wd} (Z : Hd W)
include Z
theorem ok__law_heap : Cal W 1 "_law_heap" ["_law_text", "_law_places"] (spHeap W.K) := by
  refine cal_mk (d := d_Lheap) Z.g_law_heap Z.d_Lheap sc_Lheap bd_Lheap (fun vs H Q E h => ?_) fun f cdv A outer s H vs Q E hr h => ?_
  · obtain ⟨_, _, _, _, rfl, _⟩ := h; rfl
  obtain ⟨z, po, o, E, rfl, hz, ho, hnd, hr0, hol, hEn, hEl, hE, k⟩ := h
  refine ⟨_, pss_cons (ps_par (i := 2) (j := 3) (by rfl) sc_Lheap.nd rfl rfl (by decide) rfl rfl (pa_cons (pe_lst (pa_cons (pv 1) pa_nil)) (pa_cons (pe_lst (pa_cons (pv 1) pa_nil)) pa_nil)) (by rfl))
      (pss_cons (ps_while PassesOwn.never (pt_cmpR (k_op_neD W.K hr.units) (pv 3) (pe_lst pa_nil) (nomark _)) (pss_cons (ps_set (i := 4) sc_Lheap.nd rfl (Or.inr rfl) (k_pop W.K (pv 3)))
      (pss_one (ps_for PassesOwn.never rfl (pi_range1 (by rfl) Z.m_range (pa_cons (pe_op op_sub (pe_callB (k_len_seq W.K) (by rfl) Z.m_len (by decide +kernel) (pa_cons (pv 4) pa_nil)) pe_int) pa_nil)) (pg_name (i := 5) sc_Lheap.nd rfl (Or.inr rfl)) (pss_cons (ps_setLc (i := 6) (own := [("_law_place", 7)]) (g := gName 7) rfl sc_Lheap.nd rfl rfl (sw_true rfl rfl rfl (by decide +kernel)) (pi_range2 (by rfl) Z.m_range (pa_cons (pe_un un_neg pe_int) (pa_cons (pe_op op_add (pe_callB call_len_str (by rfl) Z.m_len (by decide +kernel) (pa_cons (pv 0) pa_nil)) pe_int) pa_nil))) (blkOk_by (own := [("_law_place", 7)]) (N := ["_law_text", "_law_places", "_law_known", "_law_fresh", "_law_mine", "_law_at", "_law_row", "_law_place", "_law_its"]) (sc := defScope s_Lheap) (by decide +kernel)) (fun _ _ _ _ _ => pg_name (i := 7) sc_Lheap.nd rfl (Or.inl rfl)) (fun _ _ _ _ _ => pts_one (pt_cmpR (k_op_notIn_seq W.K) (pv 7) (pe_slice (k_sl_tupA W.K) (pv 4) po_none (po_some (pv 5))) (by rfl))) (fun _ _ _ _ _ => (pv 7)))
      (pss_cons (ps_set (i := 8) sc_Lheap.nd rfl (Or.inl rfl) (pe_op (k_op_catA W.K) (pe_op (k_op_catA W.K) (pe_slice (k_sl_tupA W.K) (pv 4) po_none (po_some (pv 5))) (pe_tup (pa_cons (pe_ix (k_ix_tup W.K) (pv 4) (pe_op op_add (pv 5) pe_int) (fun _ _ => rfl)) (pa_cons (pe_ix (k_ix_tup W.K) (pv 4) (pv 5) (fun _ _ => rfl)) pa_nil)))) (pe_slice (k_sl_tupA W.K) (pv 4) (po_some (pe_op op_add (pv 5) pe_int)) po_none)))
      (pss_one (ps_if (PW.pt (pw_and (pt_cmpR op_gt (pe_callB call_abs (by rfl) Z.m_abs (by decide +kernel) (pa_cons (pe_op op_sub (k_indexM W.K (pv 6) (pe_ix (k_ix_tup W.K) (pv 4) (pv 5) (fun _ _ => rfl))) (k_indexM W.K (pv 6) (pe_ix (k_ix_tup W.K) (pv 4) (pe_op op_add (pv 5) pe_int) (fun _ _ => rfl)))) pa_nil)) pe_int (nomark _)) (pw_and1 (pt_cmpR (k_op_notInD W.K hr.units65) (pv 8) (pv 2) (by rfl))))) (pss_cons (ps_expr (k_append W.K (pv 2) (pv 8)))
      (pss_one (ps_expr (k_append W.K (pv 3) (pv 8))))) pss_nil))))))))
      (pss_one (ps_ret (pe_callB (k_len_seq W.K) (by rfl) Z.m_len (by decide +kernel) (pa_cons (pv 2) pa_nil))))), ?_⟩
  have hzl := hz.len
  refine ⟨_, rfl, by show 1 ≤ sizeLine; decide, fun ka hka => ⟨_, rfl, by show 1 ≤ sizeLine; decide, fun fa hfa => ⟨_, _, rfl, ?_⟩⟩⟩
  have n1 := same_new hka (.lst [.ref po])
  have n2 := n1.trans (same_new hfa (.lst [.ref po]))
  have hka2 := same_new hfa (.lst [.ref po]) _ _ (show upd H ka (.lst [.ref po]) ka = _ from upd_same)
  have hfa2 : upd (upd H ka (.lst [.ref po])) fa (.lst [.ref po]) fa = _ := upd_same
  have fa0 : H fa = none := same_free n1 hfa
  have hkf : ka ≠ fa := fun e => by rw [← e, upd_same] at hfa; cases hfa
  generalize upd (upd H ka (.lst [.ref po])) fa (.lst [.ref po]) = H2 at n2 hka2 hfa2
  have oA : Alike z.cps.size o o := ⟨hnd, fun _ => Iff.rfl, fun _ _ => rfl⟩
  refine ⟨fun m σ H' => ∃ (kus fus : List V) (Ks Fs : List (List Int)) (w4 w5 w6 w8 : Option V), σ = [some (.str z), some (.ref po), some (.ref ka), some (.ref fa), w4, w5, w6, none, w8] ∧ Same H H' ∧ H' ka = some (.lst kus) ∧ H' fa = some (.lst fus) ∧ Tups W.K H' kus Ks ∧ Tups W.K H' fus Fs ∧ Ks.Nodup ∧ (∀ u ∈ Ks, u ∈ E) ∧ o ∈ Ks ∧ (∀ u ∈ Fs, u ∈ Ks) ∧
      (∀ a x y b, (a ++ x :: y :: b) ∈ Ks → (a ++ x :: y :: b) ∉ Fs → Far z.cps.size a x y → (a ++ y :: x :: b) ∈ Ks) ∧ m = 2 * (E.length - Ks.length) + Fs.length ∧ m ≤ 2 * E.length,
    ⟨_, [.ref po], [.ref po], [o], [o], _, _, _, _, rfl, n2, hka2, hfa2, .cons ⟨po, rfl, n2.tS ho⟩ .nil, .cons ⟨po, rfl, n2.tS ho⟩ .nil, by simp, fun u hu => by simp at hu; rw [hu]; exact (hE o).mpr oA, by simp, fun u hu => hu, fun a x y b h1 h2 => absurd h1 h2, rfl, by have := List.length_pos_of_mem ((hE o).mpr oA); show 2 * (E.length - 1) + 1 ≤ _; omega⟩, fun m σ H' w => ?_⟩
  obtain ⟨kus, fus, Ks, Fs, w4, w5, w6, w8, rfl, g, e1, e2, e3, e4, e5, e6, e7, e8, e9, hm, hmE⟩ := w
  have hKl : Ks.length ≤ E.length := nodup_len e5 e6
  have hkl := Paired.length e3
  have hfl := Paired.length e4
  refine ⟨_, rfl, by show 0 ≤ sizeLine; decide, fun e he => ?_⟩
  have ge := same_new he (.lst [])
  refine ⟨_, _, .lst (SqL.of (ge _ _ e2)) (dpTups (TupsN.mono ge.imS e4)), .lst (SqL.of upd_same) .nil, tups_shaped Fs, by decide +kernel, _, rfl, ?_⟩
  have g' := g.trans ge
  have f1 := ge _ _ e1
  have f2 := ge _ _ e2
  have f3 := TupsN.mono ge.imS e3
  have f4 := TupsN.mono ge.imS e4
  generalize upd H' e (.lst []) = H4 at ge g' f1 f2 f3 f4
  by_cases hnil : fus = []
  · subst hnil
    have hF : Fs = [] := by cases e4; rfl
    subst hF
    have e9' : (!(PyData.list (([] : List (List Int)).map fun p => PyData.tuple (pInts p))).eqv (PyData.list [])) = false := by decide +kernel
    rw [e9']
    refine iteF ⟨_, rfl, ka, kus, rfl, .inl (SqL.of f1), ?_⟩
    have hsub : ∀ w, w ∈ E → w ∈ Ks := fun w hw => by
      obtain ⟨q1, q2, q3⟩ := (hE w).mp hw
      exact closed (n := z.cps.size) (o := o) hr0 (fun u => u ∈ Ks) (fun a x y b h1 h2 => e9 a x y b h1 (by simp) h2) w q1 q2 q3 (pairs o w) o (Nat.le_refl _) e7 hnd (fun _ => Iff.rfl) fun _ _ => rfl
    have hlen : Ks.length = E.length := Nat.le_antisymm hKl (nodup_len hEn hsub)
    rw [hkl, hlen]
    exact k H4 g'
  · obtain ⟨la, x, lb, u, rfl, rfl, hp1, hp2⟩ := paired_unsnoc f4 hnil
    have e9' : (!(PyData.list ((lb ++ [u]).map fun p => PyData.tuple (pInts p))).eqv (PyData.list [])) = true := by
      cases lb <;> simp [PyData.eqv, PyData.eqvAll]
    rw [e9']
    obtain ⟨uq, rfl, huq⟩ := hp2
    refine iteT ⟨fun σ' H2 => ∃ m', m' < m ∧ _, fun σ' H2 h => h, ?_⟩
    have hlast : (la ++ [V.ref uq])[(la ++ [V.ref uq]).length - 1]? = some (V.ref uq) := by simp
    refine ⟨_, rfl, .inl ⟨rfl, _, SqL.of f2⟩, fa, _, _, rfl, rfl, f2, hlast, ?_⟩
    rw [List.dropLast_concat]
    have im5 : Im W.K H4 (upd H4 fa (.lst la)) := im_at f2
    have g5 := g'.mutS (o := .lst la) fa0
    have k5 : upd H4 fa (.lst la) ka = _ := (upd_ne hkf).trans f1
    have a5 : upd H4 fa (.lst la) fa = _ := upd_same
    have huq5 := im5 _ _ huq
    have f35 := TupsN.mono im5 f3
    have f45 : Tups W.K _ la lb := TupsN.mono im5 hp1
    generalize upd H4 fa (.lst la) = H5 at im5 g5 k5 a5 huq5 f35 f45
    have huK : u ∈ Ks := e8 u (by simp)
    have huA := (hE u).mp (e6 u huK)
    have hul : u.length ≤ 20 := by
      have := nodup_len huA.1 fun x hx => (huA.2.1 x).mp hx
      omega
    have huR : ∀ x ∈ u, 0 ≤ x ∧ x < (z.cps.size : Int) := fun x hx => hr0 x ((huA.2.1 x).mp hx)
    refine ⟨_, rfl, uq, _, rfl, .inr huq5, _, _, rfl, rfl, _, rfl, by omega, by rw [List.length_map]; omega, ?_⟩
    rw [List.length_map]
    refine for_range (fun i σ H' => ∃ (kus fus : List V) (Ks Fs : List (List Int)) (w5 w6 w8 : Option V), σ = [some (.str z), some (.ref po), some (.ref ka), some (.ref fa), some (.ref uq), w5, w6, none, w8] ∧ Same H H' ∧ H' ka = some (.lst kus) ∧ H' fa = some (.lst fus) ∧ Tups W.K H' kus Ks ∧ Tups W.K H' fus Fs ∧ SqT W.K H' uq (u.map V.int) ∧ Ks.Nodup ∧ (∀ v ∈ Ks, v ∈ E) ∧ o ∈ Ks ∧ (∀ v ∈ Fs, v ∈ Ks) ∧
        (∀ a x y b, (a ++ x :: y :: b) ∈ Ks → (a ++ x :: y :: b) ∉ Fs → (a ++ x :: y :: b ≠ u ∨ a.length < i) → Far z.cps.size a x y → (a ++ y :: x :: b) ∈ Ks) ∧ 2 * (E.length - Ks.length) + Fs.length < m)
      ⟨kus, la, Ks, lb, _, _, _, rfl, g5, k5, a5, f35, f45, huq5, e5, e6, e7, fun v hv => e8 v (by simp [hv]), fun a x y b h1 h2 h3 h4 => e9 a x y b h1 (fun h => by
        rcases List.mem_append.mp h with q | q
        · exact h2 q
        · simp at q
          rcases h3 with r | r
          · exact r q
          · omega) h4, by rw [hm, List.length_append]; show _ < _ + (lb.length + 1); omega⟩ (fun i σ H' hi q => ?_) (fun σ H' q => ?_)
    · obtain ⟨kus, fus, Ks, Fs, w5, w6, w8, rfl, g, e1, e2, e3, e4, huq, e5, e6, e7, e8, e9, hm⟩ := q
      have hi2 : i + 1 < u.length := by omega
      obtain ⟨a, b, hu, hal⟩ := two_at u i (u.getD i 0) (u.getD (i + 1) 0) (getD_of (by omega)) (getD_of hi2)
      generalize u.getD i 0 = x at hu
      generalize u.getD (i + 1) 0 = y at hu
      have gx : u[i]? = some x := by rw [hu, List.getElem?_append_right (by omega), hal, Nat.sub_self]; rfl
      have gy : u[i + 1]? = some y := by rw [hu, List.getElem?_append_right (by omega), show i + 1 - a.length = 1 by omega]; rfl
      have hxR := huR x (List.mem_of_getElem? gx)
      have hyR := huR y (List.mem_of_getElem? gy)
      have htk : u.take i = a := by rw [hu, ← hal, List.take_left]
      have hdp : u.drop (i + 2) = b := by rw [hu, ← hal, List.drop_append]; simp
      have hun := huA.1
      rw [hu] at hun
      obtain ⟨un1, un2, un3⟩ := List.nodup_append.mp hun
      have hxa : x ∉ a := fun m => un3 x m x (by simp) rfl
      have hya : y ∉ a := fun m => un3 y m y (by simp) rfl
      have i0 : (0 : Int) + ((i : Nat) : Int) = (i : Int) := Int.zero_add _
      have slTo : ∀ (Hx : Hp) (R : VK), SqT W.K Hx uq (u.map V.int) → (∀ q H2, Same Hx H2 → SqT W.K H2 q (a.map V.int) → R (.ref q) H2) → rSlA W.K (.ref uq) none (some (0 + (i : Nat))) Hx R := fun Hx R h hR => slA_end h fun q H2 g2 hq => hR q H2 g2 (by
        rw [i0, cut_to _ i (by rw [List.length_map]; omega), ← List.map_take, htk] at hq
        exact hq)
      refine ⟨_, rfl, _, rfl, z, rfl, sz_of (by show z.cps.size ≤ _; omega), _, _, rfl, rfl, _, _, rfl, ⟨by omega, by omega, by show -(2 ^ 62) ≤ (z.cps.size : Int) + 1; omega, by show (z.cps.size : Int) + 1 < 2 ^ 62; omega⟩, fun D hD => ?_⟩
      rw [show ((z.length : Int) + 1 - (fun i => -i) 1).toNat = z.cps.size + 2 from (by show ((z.cps.size : Int) + 1 - -1).toNat = _; omega)]
      refine lcF_range (lo := -1) (n := z.cps.size + 2) (fun y => decide (y ∉ a)) V.int hD (by omega) (fun j hj H3 R N' g3 hR hN => ?_) (fun H3 g3 hD3 => ?_)
      · refine ⟨rfl, _, rfl, _, rfl, _, rfl, _, rfl, slTo _ _ (g3.tS huq) fun q H4 g4 hq => ⟨q, _, rfl, .inr hq, rfl, flat_ints _, _, rfl, ?_⟩⟩
        show if (if true = true then !inV (V.int (-1 + (j : Nat))) (a.map V.int) else inV (V.int (-1 + (j : Nat))) (a.map V.int)) = true then _ else _
        rw [if_pos rfl, inV_int]
        by_cases c : -1 + ((j : Nat) : Int) ∈ a
        · rw [decide_eq_true c]
          exact iteF (hN (decide_eq_false fun h => h c) _ g4)
        · rw [decide_eq_false c]
          exact iteT ⟨_, rfl, hR (decide_eq_true c) _ g4⟩
      · have hrow : H3 D = some (.lst ((rowOf z.cps.size a).map V.int)) := hD3
        have huq3 := g3.tS huq
        have ax : atI (u.map V.int) (0 + (i : Nat)) = some (.int x) := by
          rw [i0]
          exact atI_nat (by rw [List.getElem?_map, gx]; rfl)
        have ay : atI (u.map V.int) (0 + (i : Nat) + 1) = some (.int y) := by
          have := atI_nat (xs := u.map V.int) (j := i + 1) (v := .int y) (by rw [List.getElem?_map, gy]; rfl)
          rwa [show ((i + 1 : Nat) : Int) = 0 + (i : Nat) + 1 by omega] at this
        have alen : a.length ≤ 20 := by omega
        have blen : b.length ≤ 20 := by
          have := congrArg List.length hu
          rw [List.length_append, List.length_cons, List.length_cons] at this
          omega
        refine ⟨_, rfl, _, rfl, _, rfl, slTo _ _ huq3 fun q1 H4 g4 hq1 => ?_⟩
        refine ⟨_, rfl, _, rfl, _, _, rfl, rfl, uq, _, _, _, rfl, rfl, g4.tS huq3, ay, _, rfl, _, rfl, uq, _, _, _, rfl, rfl, g4.tS huq3, ax, by show 2 ≤ sizeLine; decide, fun t ht => ?_⟩
        have n5 := same_new ht (.tup [.int y, .int x])
        have g5 := g4.trans n5
        refine catA_end (n5.tS hq1) (SqT.of upd_same) (by rw [List.length_map]; show a.length + 2 ≤ _; omega) fun q2 H6 g6 hq2 => ?_
        have g36 := g5.trans g6
        refine ⟨_, rfl, _, rfl, _, _, rfl, rfl, _, rfl, ?_⟩
        dsimp only [tNoPart]
        refine slA_end (g36.tS huq3) fun q3 H7 g7 hq3 => ?_
        rw [show (0 : Int) + ((i : Nat) : Int) + 2 = ((i + 2 : Nat) : Int) by omega, cut_from _ (i + 2) (by rw [List.length_map]; omega), ← List.map_drop, hdp] at hq3
        refine catA_end (g7.tS hq2) hq3 (by rw [List.length_append, List.length_map, List.length_map]; show a.length + 2 + b.length ≤ _; omega) fun q4 H8 g8 hq4 => ?_
        have hq4' : SqT W.K H8 q4 ((a ++ y :: x :: b).map V.int) := by
          rw [List.map_append]
          rw [List.append_assoc] at hq4
          exact hq4
        have g38 := (g36.trans g7).trans g8
        have g8' := (g.trans g3).trans g38
        have hrow8 := SqL.of (K := W.K) (g38 _ _ hrow)
        have huq8 := g38.tS huq3
        have hxr : x ∈ rowOf z.cps.size a := mem_row.mpr ⟨by omega, hxa⟩
        have hyr : y ∈ rowOf z.cps.size a := mem_row.mpr ⟨by omega, hya⟩
        obtain ⟨s1, s2⟩ := spot_get hxr
        obtain ⟨s3, s4⟩ := spot_get hyr
        refine ⟨_, rfl, .inl ⟨rfl, _, hrow8⟩, _, rfl, _, rfl, uq, _, _, _, rfl, rfl, huq8, ax, ?_⟩
        dsimp only [tNil]
        refine idxI hrow8 s1 s2 ?_
        refine ⟨_, rfl, .inl ⟨rfl, _, hrow8⟩, _, rfl, _, rfl, _, _, rfl, rfl, uq, _, _, _, rfl, rfl, huq8, ay, ?_⟩
        dsimp only [tNil]
        refine idxI hrow8 s3 s4 ?_
        refine ⟨_, _, rfl, rfl, _, rfl, _, _, rfl, rfl, _, rfl, ?_⟩
        have hfar := far_iff (n := z.cps.size) hxR hyR s1 s3
        have e18 := (g3.trans g38) _ _ e1
        have e28 := (g3.trans g38) _ _ e2
        have e38 := TupsN.mono (g3.trans g38).imS e3
        have e48 := TupsN.mono (g3.trans g38).imS e4
        have huq8' := g38.tS huq3
        have hkul := Paired.length e38
        have hful := Paired.length e48
        have hKl := nodup_len e5 e6
        have uniq : ∀ a' x' y' b', a' ++ x' :: y' :: b' = u → a'.length = i → a' = a ∧ x' = x ∧ y' = y ∧ b' = b := by
          intro a' x' y' b' h1 h2
          rw [hu] at h1
          obtain ⟨r1, r2⟩ := List.append_inj h1 (by omega)
          injection r2 with r2 r3
          injection r3 with r3 r4
          exact ⟨r1, r2, r3, r4⟩
        by_cases cf : Far z.cps.size a x y
        · rw [decide_eq_true (hfar.mpr cf)]
          refine iteT ⟨_, rfl, _, rfl, _, _, dp_tI hq4', .lst (SqL.of e18) (dpTups e38), shaped_tI _, tups_shaped Ks, _, rfl, ?_⟩
          rw [tups_any]
          by_cases ck : (a ++ y :: x :: b) ∈ Ks
          · rw [decide_eq_true ck]
            refine iteF ⟨kus, fus, Ks, Fs, _, _, _, rfl, g8', e18, e28, e38, e48, huq8', e5, e6, e7, e8, fun a' x' y' b' h1 h2 h3 h4 => ?_, hm⟩
            by_cases ce : a' ++ x' :: y' :: b' = u ∧ a'.length = i
            · obtain ⟨r1, r2, r3, r4⟩ := uniq _ _ _ _ ce.1 ce.2
              rw [r1, r2, r3, r4]
              exact ck
            · refine e9 a' x' y' b' h1 h2 ?_ h4
              rcases h3 with h3 | h3
              · exact .inl h3
              · by_cases cq : a' ++ x' :: y' :: b' = u
                · exact .inr (by
                    have : a'.length ≠ i := fun q => ce ⟨cq, q⟩
                    omega)
                · exact .inl cq
          · rw [decide_eq_false ck]
            have hwE : (a ++ y :: x :: b) ∈ E := (hE _).mpr (alike_swap (by rw [← hu]; exact huA) cf)
            refine iteT ?_
            refine ⟨_, rfl, .inl ⟨rfl, _, SqL.of e18⟩, _, rfl, ka, kus, _, rfl, rfl, e18, sz_lt (by omega), ?_⟩
            have im9 : Im W.K H8 (upd H8 ka (.lst (kus ++ [.ref q4]))) := im_at e18
            have e29 : upd H8 ka (.lst (kus ++ [.ref q4])) fa = _ := (upd_ne hkf.symm).trans e28
            have e19 : upd H8 ka (.lst (kus ++ [.ref q4])) ka = _ := upd_same
            have g9 := g8'.mutS (o := .lst (kus ++ [.ref q4])) hka
            generalize upd H8 ka (.lst (kus ++ [.ref q4])) = H9 at im9 e29 e19 g9
            have hFl : Fs.length ≤ 30000 := by omega
            refine ⟨_, rfl, .inl ⟨rfl, _, SqL.of e29⟩, _, rfl, fa, fus, _, rfl, rfl, e29, sz_lt (by omega), ?_⟩
            have im10 : Im W.K H9 (upd H9 fa (.lst (fus ++ [.ref q4]))) := im_at e29
            have imT := im9.trans im10
            have kn : (Ks ++ [a ++ y :: x :: b]).Nodup := List.nodup_append.mpr ⟨e5, by simp, fun v hv v' hv' e => by simp at hv'; exact ck (by rw [← hv', ← e]; exact hv)⟩
            have kE : ∀ v ∈ Ks ++ [a ++ y :: x :: b], v ∈ E := fun v hv => by
              rcases List.mem_append.mp hv with q | q
              · exact e6 v q
              · simp at q; rw [q]; exact hwE
            have hKl2 := nodup_len kn kE
            rw [List.length_append] at hKl2
            refine ⟨kus ++ [.ref q4], fus ++ [.ref q4], Ks ++ [a ++ y :: x :: b], Fs ++ [a ++ y :: x :: b], _, _, _, rfl, g9.mutS fa0, (upd_ne hkf).trans e19, upd_same, paired_snoc (TupsN.mono imT e38) ⟨q4, rfl, imT _ _ hq4'⟩, paired_snoc (TupsN.mono imT e48) ⟨q4, rfl, imT _ _ hq4'⟩, imT _ _ huq8', kn, kE, by simp [e7], fun v hv => ?_, fun a' x' y' b' h1 h2 h3 h4 => ?_, ?_⟩
            · rcases List.mem_append.mp hv with q | q
              · simp [e8 v q]
              · simp at q; simp [q]
            · have h2' : a' ++ x' :: y' :: b' ∉ Fs := fun q => h2 (by simp [q])
              have h1' : a' ++ x' :: y' :: b' ∈ Ks := by
                rcases List.mem_append.mp h1 with q | q
                · exact q
                · exact absurd (List.mem_append_right _ q) h2
              by_cases ce : a' ++ x' :: y' :: b' = u ∧ a'.length = i
              · obtain ⟨r1, r2, r3, r4⟩ := uniq _ _ _ _ ce.1 ce.2
                rw [r1, r2, r3, r4]
                simp
              · refine List.mem_append_left _ (e9 a' x' y' b' h1' h2' ?_ h4)
                rcases h3 with h3 | h3
                · exact .inl h3
                · by_cases cq : a' ++ x' :: y' :: b' = u
                  · exact .inr (by
                      have : a'.length ≠ i := fun q => ce ⟨cq, q⟩
                      omega)
                  · exact .inl cq
            · rw [List.length_append, List.length_append]
              show 2 * (E.length - (Ks.length + 1)) + (Fs.length + 1) < m
              have : Ks.length + 1 ≤ E.length := hKl2
              omega
        · rw [decide_eq_false (fun h => cf (hfar.mp h))]
          refine iteF ⟨kus, fus, Ks, Fs, _, _, _, rfl, g8', e18, e28, e38, e48, huq8', e5, e6, e7, e8, fun a' x' y' b' h1 h2 h3 h4 => ?_, hm⟩
          by_cases ce : a' ++ x' :: y' :: b' = u ∧ a'.length = i
          · obtain ⟨r1, r2, r3, r4⟩ := uniq _ _ _ _ ce.1 ce.2
            rw [r1, r2, r3] at h4
            exact absurd h4 cf
          · refine e9 a' x' y' b' h1 h2 ?_ h4
            rcases h3 with h3 | h3
            · exact .inl h3
            · by_cases cq : a' ++ x' :: y' :: b' = u
              · exact .inr (by
                  have : a'.length ≠ i := fun q => ce ⟨cq, q⟩
                  omega)
              · exact .inl cq
    · obtain ⟨kus, fus, Ks, Fs, w5, w6, w8, rfl, g, e1, e2, e3, e4, huq, e5, e6, e7, e8, e9, hm⟩ := q
      refine ⟨2 * (E.length - Ks.length) + Fs.length, hm, kus, fus, Ks, Fs, _, _, _, _, rfl, g, e1, e2, e3, e4, e5, e6, e7, e8, fun a x y b h1 h2 h3 => e9 a x y b h1 h2 ?_ h3, rfl, by omega⟩
      by_cases cq : a ++ x :: y :: b = u
      · refine .inr ?_
        have := congrArg List.length cq
        rw [List.length_append, List.length_cons, List.length_cons] at this
        omega
      · exact .inl cq
end
end Sl
/-! SlMath9 -/
namespace Sl
/-! ### what the law's right asks of the plain laws -/
abbrev GapsIn (n : Nat) (o : List Int) : List (Int × Int) := gapsOf (n : Int) (compl n o)
abbrev FullIn (n : Nat) (o : List Int) : List (Int × Int) := full (n : Int) o (compl n o)
theorem full_sub {n : Nat} {o : List Int} {g : Int × Int} (h : g ∈ FullIn n o) : g ∈ GapsIn n o ∧ partOf o g ≠ [] := by
  have := List.mem_filter.mp h
  exact ⟨this.1, of_decide_eq_true this.2⟩
/-- a weave of an order's own parts -/
theorem weave_own {n : Nat} {o w : List Int} (hr : ∀ x ∈ o, 0 ≤ x ∧ x < (n : Int)) (hnd : o.Nodup) (h : Wv ((FullIn n o).map (partOf o)) w) :
    (∀ x, x ∈ w ↔ x ∈ o) ∧ w.Nodup ∧ w.length = o.length ∧ ∀ g ∈ GapsIn n o, part w g.1 g.2 = part o g.1 g.2 := by
  rcases weave_all hr (partOf o) (fun g hg y => gap_part hg y) (fun g _ => hnd.filter _) h with ⟨a, b, c⟩ | a
  · exact ⟨a, b, c, weave_part (partOf o) (fun g hg y hy => (gap_part hg y).mp hy) h⟩
  · exact absurd hnd a
/-- a weave with one part taken out for another order of the same gap -/
def mixOf (o : List Int) (g0 : Int × Int) (o' : List Int) (g : Int × Int) : List Int := if g = g0 then o' else partOf o g
theorem mix_full {pr : Pr} {n : Nat} {o o' : List Int} {g0 : Int × Int} (h0 : g0 ∈ FullIn n o) (hv : Vord pr g0.1 g0.2 o') :
    (GapsIn n o).filter (fun g => decide (mixOf o g0 o' g ≠ [])) = FullIn n o := by
  refine List.filter_congr fun g hg => ?_
  by_cases c : g = g0
  · subst c
    obtain ⟨h1, h2⟩ := full_sub h0
    have e : mixOf o g o' g = o' := if_pos rfl
    rw [e, decide_eq_true h2, decide_eq_true]
    obtain ⟨y, hy⟩ := List.exists_mem_of_ne_nil _ h2
    intro e
    have := (hv.mem y).mpr ((gap_part h1 y).mp hy)
    rw [e] at this
    cases this
  · rw [show mixOf o g0 o' g = partOf o g from if_neg c]
theorem weave_mix {pr : Pr} {n : Nat} {o o' w : List Int} {g0 : Int × Int} {c : Int} (hr : ∀ x ∈ o, 0 ≤ x ∧ x < (n : Int)) (hnd : o.Nodup) (hrun : runTo pr (n : Int) (upTo n) o = some (compl n o, c)) (h0 : g0 ∈ FullIn n o) (hv : Vord pr g0.1 g0.2 o') (hn' : o'.Nodup)
    (h : Wv ((FullIn n o).map (mixOf o g0 o')) w) :
    (∀ x, x ∈ w ↔ x ∈ o) ∧ w.Nodup ∧ w.length = o.length ∧ (∃ c', runTo pr (n : Int) (upTo n) w = some (compl n o, c')) ∧
      (forest (n : Int) o (compl n o) = forest (n : Int) w (compl n o) ↔ tr o' = tr (partOf o g0)) := by
  rw [← mix_full h0 hv] at h
  obtain ⟨hg0, _⟩ := full_sub h0
  have hmem : ∀ g ∈ GapsIn n o, ∀ y, y ∈ mixOf o g0 o' g ↔ g.1 < y ∧ y < g.2 := fun g hg y => by
    by_cases c : g = g0
    · subst c
      rw [show mixOf o g o' g = o' from if_pos rfl]
      exact hv.mem y
    · rw [show mixOf o g0 o' g = partOf o g from if_neg c]
      exact gap_part hg y
  have hnn : ∀ g ∈ GapsIn n o, (mixOf o g0 o' g).Nodup := fun g hg => by
    by_cases c : g = g0
    · rw [show mixOf o g0 o' g = o' from if_pos c]; exact hn'
    · rw [show mixOf o g0 o' g = partOf o g from if_neg c]; exact hnd.filter _
  obtain ⟨_, _, hgv⟩ := run_gaps hnd hr hrun
  have hp := weave_part (mixOf o g0 o') (fun g hg y hy => (hmem g hg y).mp hy) h
  rcases weave_all hr (mixOf o g0 o') hmem hnn h with ⟨a, b, d⟩ | a
  · refine ⟨a, b, d, gaps_run b (fun x hx => hr x ((a x).mp hx)) a fun g hg => ?_, ?_⟩
    · rw [hp g hg]
      by_cases c : g = g0
      · subst c
        rw [show mixOf o g o' g = o' from if_pos rfl]
        exact hv
      · rw [show mixOf o g0 o' g = partOf o g from if_neg c]
        exact hgv g hg
    · rw [eq_comm, forest_iff]
      constructor
      · intro e
        have := e g0 hg0
        rw [hp g0 hg0, show mixOf o g0 o' g0 = o' from if_pos rfl] at this
        exact this
      · intro e g hg
        rw [hp g hg]
        by_cases c : g = g0
        · subst c
          rw [show mixOf o g o' g = o' from if_pos rfl]
          exact e
        · rw [show mixOf o g0 o' g = partOf o g from if_neg c]
          rfl
  · exact absurd hnd a
/-! ### the count of an order's forest -/
def treeIn (o : List Int) (g : Int × Int) : Tree := tr (part o g.1 g.2)
theorem pairs_row : ∀ {l : List Int}, l.Pairwise (· < ·) → (pairsOf l).Pairwise fun g g' : Int × Int => g.2 ≤ g'.1
  | [], _ => .nil
  | [a], _ => .nil
  | a :: b :: r, h => by
    rw [pairsOf_cons]
    have h2 := (List.pairwise_cons.mp h).2
    refine List.pairwise_cons.mpr ⟨fun g hg => ?_, pairs_row h2⟩
    have := (pairsOf_mem hg).1
    rcases List.mem_cons.mp this with e | e
    · rw [e]; exact Int.le_refl _
    · exact Int.le_of_lt ((List.pairwise_cons.mp h2).1 _ e)
theorem row_in (n : Nat) (o : List Int) : Row (treeIn o) (GapsIn n o) := by
  refine ⟨pairs_row (ends_lt n o), fun g hg => ⟨(gap_ok hg).1, tr_inB _ _ _ fun x hx => (mem_part.mp hx).2⟩⟩
theorem alike_iff {n : Nat} {o : List Int} (hr : ∀ x ∈ o, 0 ≤ x ∧ x < (n : Int)) (w : List Int) : w ∈ forL ((GapsIn n o).map (treeIn o)) ↔ Alike n o w := by
  rw [for_mem (treeIn o) _ (row_in n o)]
  constructor
  · rintro ⟨h1, h2, h3⟩
    refine ⟨h1, fun x => ?_, h3⟩
    constructor
    · intro hx
      obtain ⟨g, hg, a, b⟩ := h2 x hx
      exact (gap_ok hg).2.2.2 x a b
    · intro hx
      obtain ⟨g, hg, a⟩ := gap_cover (hr x hx).1 (hr x hx).2 hx
      have e := h3 g hg
      have m1 : x ∈ part o g.1 g.2 := (gap_part hg x).mpr a
      have m2 : InT (tr (part w g.1 g.2)) x := by
        rw [e]
        exact (inT_mem _ x).mpr m1
      exact (mem_part.mp ((inT_mem _ x).mp m2)).1
  · rintro ⟨h1, h2, h3⟩
    refine ⟨h1, fun x hx => ?_, h3⟩
    have hx' := (h2 x).mp hx
    exact gap_cover (hr x hx').1 (hr x hx').2 hx'
/-- the law's due -/
def due (o : List Int) (gs : List (Int × Int)) : Nat := gs.foldl (fun d g => d * (tr (partOf o g)).exts) (lw 0 (gs.map fun g => (partOf o g).length))
theorem foldl_mul {α : Type} (f : α → Nat) : ∀ (l : List α) (d : Nat), l.foldl (fun d g => d * f g) d = d * (l.map f).foldr (· * ·) 1
  | [], d => (Nat.mul_one d).symm
  | a :: l, d => by
    show l.foldl (fun d g => d * f g) (d * f a) = d * (f a * (l.map f).foldr (· * ·) 1)
    rw [foldl_mul f l, Nat.mul_assoc]
theorem foldr_drop {α : Type} (f : α → Nat) (q : α → Bool) : ∀ (l : List α), (∀ a ∈ l, q a = false → f a = 1) → ((l.filter q).map f).foldr (· * ·) 1 = (l.map f).foldr (· * ·) 1
  | [], _ => rfl
  | a :: l, h => by
    have ih := foldr_drop f q l fun b hb => h b (List.mem_cons_of_mem _ hb)
    rw [List.filter_cons]
    by_cases c : q a = true
    · rw [if_pos c]
      show f a * _ = f a * _
      rw [ih]
    · rw [if_neg c, ih]
      show _ = f a * _
      rw [h a List.mem_cons_self (by simpa using c), Nat.one_mul]
theorem lens_eq {n : Nat} {o : List Int} (hnd : o.Nodup) : (FullIn n o).map (fun g => (partOf o g).length) = (sizes ((GapsIn n o).map (treeIn o))).filter fun k => decide (k ≠ 0) := by
  unfold sizes
  rw [List.map_map, List.filter_map]
  have e1 : (GapsIn n o).filter ((fun k => decide (k ≠ 0)) ∘ (Tree.size ∘ treeIn o)) = FullIn n o := by
    refine List.filter_congr fun g hg => ?_
    show decide ((tr (part o g.1 g.2)).size ≠ 0) = decide (partOf o g ≠ [])
    rw [tr_size (part o g.1 g.2) (hnd.filter _)]
    show decide ((partOf o g).length ≠ 0) = _
    simp
  rw [e1]
  refine List.map_congr_left fun g hg => ?_
  show _ = (tr (part o g.1 g.2)).size
  rw [tr_size (part o g.1 g.2) (hnd.filter _)]
  rfl
theorem due_eq {n : Nat} {o : List Int} (hr : ∀ x ∈ o, 0 ≤ x ∧ x < (n : Int)) (hnd : o.Nodup) :
    due o (FullIn n o) = (forL ((GapsIn n o).map (treeIn o))).length := by
  rw [for_len (treeIn o) _ (row_in n o)]
  unfold due
  rw [foldl_mul fun g => (tr (partOf o g)).exts]
  congr 1
  · rw [lens_eq hnd, lw_filter, lw_ways]
  · unfold prodE
    rw [List.map_map]
    refine foldr_drop (fun g => (tr (partOf o g)).exts) (fun g => decide (partOf o g ≠ [])) _ fun g _ hg => ?_
    have : partOf o g = [] := by simpa using hg
    rw [this]
    rfl
theorem sizes_sum {n : Nat} {o : List Int} (hr : ∀ x ∈ o, 0 ≤ x ∧ x < (n : Int)) (hnd : o.Nodup) : (sizes ((GapsIn n o).map (treeIn o))).sum = o.length := by
  refine (for_size (treeIn o) _ (row_in n o) o ?_).symm
  exact (alike_iff hr o).mpr ⟨hnd, fun _ => Iff.rfl, fun _ _ => rfl⟩
theorem sum_drop0 : ∀ l : List Nat, (l.filter fun k => decide (k ≠ 0)).sum = l.sum
  | [] => rfl
  | k :: l => by
    rw [List.filter_cons]
    by_cases c : k = 0
    · subst c
      rw [if_neg (by simp), sum_drop0 l, List.sum_cons, Nat.zero_add]
    · rw [if_pos (decide_eq_true c), List.sum_cons, List.sum_cons, sum_drop0 l]
theorem lens_sum {n : Nat} {o : List Int} (hr : ∀ x ∈ o, 0 ≤ x ∧ x < (n : Int)) (hnd : o.Nodup) : ((FullIn n o).map fun g => (partOf o g).length).sum = o.length := by
  rw [lens_eq hnd, sum_drop0, sizes_sum hr hnd]
theorem Vord.nodup {pr : Pr} {p q : Int} {o : List Int} (h : Vord pr p q o) : o.Nodup := by
  induction h with
  | nil => exact .nil
  | @snoc p q x o h1 h2 hp hn hl hr ihl ihr =>
    have : o.Nodup := nodup_split (f := fun y => decide (y < x)) rfl (not_lt_filter hn) ihl ihr (fun y hy => (List.mem_filter.mp hy).2) (fun y hy => by
      have := of_decide_eq_true (List.mem_filter.mp hy).2
      exact decide_eq_false (by omega))
    exact List.nodup_append.mpr ⟨this, by simp, fun a ha b hb e => by simp at hb; exact hn (by rw [← hb, ← e]; exact ha)⟩
theorem mix_len {pr : Pr} {n : Nat} {o o' : List Int} {g0 : Int × Int} (hnd : o.Nodup) (h0 : g0 ∈ FullIn n o) (hv : Vord pr g0.1 g0.2 o') (hn' : o'.Nodup) (g : Int × Int) : (mixOf o g0 o' g).length = (partOf o g).length := by
  by_cases c : g = g0
  · subst c
    rw [show mixOf o g o' g = o' from if_pos rfl]
    refine ((List.perm_ext_iff_of_nodup hn' (hnd.filter _)).mpr fun y => ?_).length_eq
    exact (hv.mem y).trans (gap_part (full_sub h0).1 y).symm
  · rw [show mixOf o g0 o' g = partOf o g from if_neg c]
theorem count_eq {n : Nat} {o : List Int} (hr : ∀ x ∈ o, 0 ≤ x ∧ x < (n : Int)) (hnd : o.Nodup) :
    (forest (n : Int) o (compl n o)).foldl (fun f t => f / t.prod) (fac o.length) = due o (FullIn n o) := by
  rw [due_eq hr hnd, for_len (treeIn o) _ (row_in n o)]
  have h := for_fac ((GapsIn n o).map (treeIn o))
  rw [sizes_sum hr hnd] at h
  rw [← h]
  exact fold_div _ _
theorem due_le {n : Nat} {o : List Int} (hr : ∀ x ∈ o, 0 ≤ x ∧ x < (n : Int)) (hnd : o.Nodup) : due o (FullIn n o) ≤ fac o.length := by
  rw [due_eq hr hnd, for_len (treeIn o) _ (row_in n o)]
  have h := for_fac ((GapsIn n o).map (treeIn o))
  rw [sizes_sum hr hnd] at h
  rw [← h]
  refine Nat.le_mul_of_pos_right _ ?_
  unfold prodP
  generalize (GapsIn n o).map (treeIn o) = ts
  induction ts with
  | nil => exact Nat.one_pos
  | cons t ts ih => exact Nat.mul_pos t.prod_pos ih
theorem heap_list {n : Nat} {o : List Int} (hr : ∀ x ∈ o, 0 ≤ x ∧ x < (n : Int)) (hnd : o.Nodup) (hl : o.length ≤ 6) :
    ∃ E : List (List Int), E.Nodup ∧ E.length ≤ 10000 ∧ (∀ w, w ∈ E ↔ Alike n o w) ∧ E.length = due o (FullIn n o) := by
  refine ⟨forL ((GapsIn n o).map (treeIn o)), for_nodup _ _ (row_in n o), ?_, alike_iff hr, (due_eq hr hnd).symm⟩
  rw [← due_eq hr hnd]
  refine Nat.le_trans (due_le hr hnd) ?_
  have : ∀ k, k ≤ 6 → fac k ≤ 10000 := by decide
  exact this _ hl
end Sl
/-! SlMathA -/
namespace Sl
/-! ### twenty gaps of two letters -/
def mineC : Nat → List Int
  | 0 => []
  | k + 1 => mineC k ++ [0 + (k : Int) * 3, 1 + (k : Int) * 3]
def foundC : Nat → Nat
  | 0 => 1
  | k + 1 => foundC k * (2 * k + 1) * (2 * k + 2) / 2
def rowC : List Int := (List.range 20).map (fun (m : Nat) => 0 + (m : Int) * 3) ++ (List.range 20).map (fun (m : Nat) => 1 + (m : Int) * 3)
def oddC : List Int := (mineC 20).take 38 ++ [58, 57]
def prC : Pr := fun _ x _ => if x % 3 = 2 then none else some 1
theorem mineC_len : ∀ k, (mineC k).length = 2 * k
  | 0 => rfl
  | k + 1 => by
    unfold mineC
    rw [List.length_append, mineC_len k]
    show 2 * k + 2 = 2 * (k + 1)
    omega
theorem mineC_succ (k : Nat) : mineC (k + 1) = mineC k ++ [0 + (k : Int) * 3, 1 + (k : Int) * 3] := rfl
theorem foundC_int (i : Nat) : ((foundC (i + 1) : Nat) : Int) = (foundC i : Nat) * (2 * ((0 : Int) + (i : Nat)) + 1) * (2 * ((0 : Int) + (i : Nat)) + 2) / 2 := by
  rw [show foundC (i + 1) = foundC i * (2 * i + 1) * (2 * i + 2) / 2 from rfl, Int.zero_add]
  simp only [Int.natCast_ediv, Int.natCast_mul, Int.natCast_add]
  rfl
theorem foundC_lt : ∀ k, k ≤ 20 → foundC k < 2 ^ 200 := by decide +kernel
theorem runTo_congr {p1 p2 : Pr} {n : Int} : ∀ (o st : List Int), (∀ a b x, x ∈ o → p1 a x b = p2 a x b) → runTo p1 n st o = runTo p2 n st o
  | [], _, _ => rfl
  | x :: o, st, h => by
    unfold runTo
    rw [h _ _ x List.mem_cons_self, runTo_congr o (st.erase x) fun a b y hy => h a b y (List.mem_cons_of_mem _ hy)]
theorem mine_run : runTo prC 60 (upTo 60) (mineC 20) = some (compl 60 (mineC 20), 40) := by decide +kernel
theorem row_run : runTo prC 60 (upTo 60) rowC = some (compl 60 (mineC 20), 40) := by decide +kernel
theorem odd_run : runTo prC 60 (upTo 60) oddC = some (compl 60 (mineC 20), 40) := by decide +kernel
theorem mine_nd : (mineC 20).Nodup := by decide +kernel
theorem row_nd : rowC.Nodup := by decide +kernel
theorem odd_nd : oddC.Nodup := by decide +kernel
theorem mine_rg : ∀ x ∈ mineC 20, (0 ≤ x ∧ x < 60) ∧ x % 3 ≠ 2 := by decide +kernel
theorem row_rg : ∀ x ∈ rowC, (0 ≤ x ∧ x < 60) ∧ x % 3 ≠ 2 := by decide +kernel
theorem odd_rg : ∀ x ∈ oddC, (0 ≤ x ∧ x < 60) ∧ x % 3 ≠ 2 := by decide +kernel
theorem mine_row : ∀ x ∈ mineC 20, x ∈ rowC := by decide +kernel
theorem mine_odd : ∀ x ∈ mineC 20, x ∈ oddC := by decide +kernel
theorem mine_count : (forest 60 (mineC 20) (compl 60 (mineC 20))).foldl (fun f t => f / t.prod) (fac 40) = foundC 20 := by decide +kernel
theorem row_forest : forest 60 (mineC 20) (compl 60 (mineC 20)) = forest 60 rowC (compl 60 (mineC 20)) := by decide +kernel
theorem odd_forest : forest 60 (mineC 20) (compl 60 (mineC 20)) ≠ forest 60 oddC (compl 60 (mineC 20)) := by decide +kernel
theorem row_pairs : pairs (mineC 20) rowC = 190 := by decide +kernel
end Sl
/-! SlK2 -/
namespace Sl
open PySem PySem.Spec PyProof.Rows L2
/-! ### how_many_one by keywords; a local name that holds one of two defs -/
theorem kbindsN {K : PySem.W.Frag} {x qual : Str} {params : Arguments} {body : List Stmt} {scope : Scope} {f : Addr} {fd : FuncData} {ps : List Str} (F : FunD K x qual params body scope [] [] f fd) (ks : List Str) (g : {α : Type} → List α → List α)
    (hrel : ∀ {zs : List V} {ws : List Value}, Vals zs ws → Vals (g zs) (g ws))
    (h : ∀ (kV doc pm : Value) (an : Option Addr) (cdv ct : Value) (ws : List Value), ws.length = ks.length → bindArgs (PySem.W.fnOf x qual params body scope .none kV doc pm an cdv ct) ⟨[], ks.zip ws⟩ = pure (ps.zip (g ws))) :
    KBn K fd ps 0 ks (fun _ ws => g ws) (fun _ zs => g zs) := by
  obtain ⟨oc, od, dV, kV, doc, pm, an, cdv, ct, osl, rfl, lk, hcd, hD, hK⟩ := F.ex
  rcases hD with ⟨_, rfl⟩ | ⟨e, _⟩
  · refine ⟨fun s us ws X l1 l2 => ?_, fun _ r2 => hrel r2⟩
    have : us = [] := List.length_eq_zero_iff.mp l1
    subst this
    exact .of_eq (h kV doc pm an cdv ct ws l2)
  · exact absurd rfl e
def ord3 {α : Type} : List α → List α
  | [a, b, c] => [b, c, a]
  | _ => []
theorem ord3_rel {zs : List V} {ws : List Value} (h : Vals zs ws) : Vals (ord3 zs) (ord3 ws) := by
  cases h with
  | nil => exact .nil
  | cons a r =>
    cases r with
    | nil => exact .nil
    | cons b r =>
      cases r with
      | nil => exact .nil
      | cons c r =>
        cases r with
        | nil => exact .cons b (.cons c (.cons a .nil))
        | cons d r => exact .nil
section
variable {W : Wd} (Z : Hd W)
variable {X : Cx} {e1 e2 e3 : Expr} {t1 t2 t3 : TE} {p pos k1 k2 k3 : Pos}
include Z
theorem pe_hmk (hr : Room 65 X.A) (h1 : PE X e1 t1) (h2 : PE X e2 t2) (h3 : PE X e3 t3) (hg : Gl X "how_many_one" := by rfl) (hW : Wof X = W := by rfl) :
    PE X (.Call (.Name "how_many_one" p) [] [⟨some "order", e1, k1⟩, ⟨some "word", e2, k2⟩, ⟨some "book", e3, k3⟩] pos) (tCallK0 3 (spHowManyOne W.K) ord3 (tCons t1 (tCons t2 (tCons t3 tNil)))) := by
  subst hW
  obtain ⟨f, fd, a, b, F, D⟩ := ok_how_many_oneD Z
  exact pe_callK0 F hr hg a b (kbindsN D ["order", "word", "book"] ord3 ord3_rel fun kV doc pm an cdv ct ws hl => match ws, hl with | [_, _, _], _ => rfl) (pk_cons h1 (pk_cons h2 (pk_cons h3 pk_nil))) rfl rfl (by decide) rfl
end
/-- what both of the law's two asks keep -/
def spAsk (K : PySem.W.Frag) : Sp := fun vs H Q _ => ∃ (z : Str) (bp p1 p2 : Addr) (xs : List V) (rs : List Rule) (o1 o2 st : List Int) (c1 c2 : Int), vs = [.str z, .ref bp, .ref p1, .ref p2] ∧ GoodW z ∧ GoodB rs ∧ BookAt K H bp xs rs ∧
  SqT K H p1 (o1.map V.int) ∧ SqT K H p2 (o2.map V.int) ∧ Ord z rs o1 st c1 ∧ Ord z rs o2 st c2 ∧ (∀ x ∈ o1, x ∈ o2) ∧
  ∀ v H', Same H H' → (decide (v = V.non) = !decide (forest (z.cps.size : Int) o1 st = forest (z.cps.size : Int) o2 st)) → Q v H'
def farA (K : PySem.W.Frag) : Addr := He.fAd K d_far_apart.at_
def excA (K : PySem.W.Frag) : Addr := He.fAd K d_exchange_row.at_
def askS (K : PySem.W.Frag) : Addr → Option Sp := fun f => if f = farA K ∨ f = excA K then some (spAsk K) else none
section
variable {W : Wd} (Z : Hd W)
include Z
theorem askA (f : Addr) (sp : Sp) (h : askS W.K f = some sp) : Held W.P W.w W.K W.mg W.base 66 f sp := by
  unfold askS at h
  by_cases c : f = farA W.K ∨ f = excA W.K
  · rw [if_pos c] at h
    cases h
    rcases c with rfl | rfl
    · obtain ⟨f, fd, a, b, F, B⟩ := ok_far_apart Z
      have e : f = farA W.K := by
        have := a.symm.trans Z.g_far_apart
        injection this with this
        injection this
      subst e
      refine ⟨fd, _, F.imp fun vs H Q E q => ?_, b, B⟩
      obtain ⟨z, bp, p1, p2, xs, rs, o1, o2, st, c1, c2, rfl, hz, hg, hb, h1, h2, r1, r2, hs, k⟩ := q
      refine ⟨z, bp, p1, p2, xs, rs, o1, o2, st, c1, c2, rfl, hz, hg, hb, h1, h2, r1, r2, hs, fun H' g => k _ H' g ?_⟩
      by_cases d : forest (z.cps.size : Int) o1 st = forest (z.cps.size : Int) o2 st
      · rw [if_pos d, decide_eq_true d]; rfl
      · rw [if_neg d, decide_eq_false d]; rfl
    · obtain ⟨f, fd, a, b, F, B⟩ := (ok_exchange_row Z).mono (show 65 ≤ 66 by decide)
      have e : f = excA W.K := by
        have := a.symm.trans Z.g_exchange_row
        injection this with this
        injection this
      subst e
      refine ⟨fd, _, F.imp fun vs H Q E q => ?_, b, B⟩
      obtain ⟨z, bp, p1, p2, xs, rs, o1, o2, st, c1, c2, rfl, hz, hg, hb, h1, h2, r1, r2, hs, k⟩ := q
      refine ⟨z, bp, p1, p2, xs, rs, o1, o2, st, c1, c2, rfl, hz, hg, hb, h1, h2, r1, r2, hs, fun v H' g hv => k v H' g ?_⟩
      by_cases d : forest (z.cps.size : Int) o1 st = forest (z.cps.size : Int) o2 st
      · rw [if_pos d] at hv
        obtain ⟨q, ms, rfl, _⟩ := hv
        rw [decide_eq_true d]; rfl
      · rw [if_neg d] at hv
        rw [hv, decide_eq_false d]; rfl
  · rw [if_neg c] at h
    cases h
end
end Sl
/-! SlL6 -/
namespace Sl
open PySem PySem.Spec PyProof.Rows L2
/-! ### the law's right -/
theorem sc_Lright : FnScope ["_law_draw", "_law_text", "_law_rules", "_law_mine", "_law_gaps_here", "_law_its", "_law_row", "_law_due", "_law_low", "_law_high", "_law_own", "_law_fresh", "_law_mixed", "_law_is_so", "_law_ask"] ["_law_draw", "_law_text", "_law_rules", "_law_mine"] (defScope s_Lright) := ⟨rfl, rfl, rfl, by decide +kernel, rfl, by decide +kernel, by decide +kernel⟩
theorem bd_Lright : Bnd d_Lright ["_law_draw", "_law_text", "_law_rules", "_law_mine"] := fun _ _ _ _ _ _ us hl => match us, hl with | [_, _, _, _], _ => rfl
def spRight (K : PySem.W.Frag) : Sp := fun vs H Q _ => ∃ (d bp po : Addr) (z : Str) (xs : List V) (rs : List Rule) (o : List Int) (c : Int) (N : Nat), vs = [.ref d, .str z, .ref bp, .ref po] ∧ DrawAt H d N ∧ N ≤ 40000 ∧ GoodW z ∧ z.cps.size ≤ 20 ∧ GoodB rs ∧ BookAt K H bp xs rs ∧
  SqT K H po (o.map V.int) ∧ o.Nodup ∧ (∀ x ∈ o, 0 ≤ x ∧ x < (z.cps.size : Int)) ∧ runTo (pr z rs) (z.cps.size : Int) (upTo z.cps.size) o = some (compl z.cps.size o, c) ∧
  ∀ H', But [d] H H' → DrawAt H' d (N + 400) → Q (.bl true) H'
theorem dp_run {K : PySem.W.Frag} {H : Hp} {q r : Addr} {st : List Int} {c : Int} (hq : H q = some (.tup (st.map V.int))) (hr : H r = some (.tup [.ref q, .int c])) : Dp K H (.ref r) (.tuple [.tuple (pInts st), .int c]) :=
  .tup (SqT.of hr) (.cons (dp_tI (SqT.of hq)) (.cons (.int c) .nil))
theorem shaped_run (st : List Int) (c : Int) : SeqAt.shaped (.tuple [.tuple (pInts st), .int c]) = true :=
  shaped_of (by simp [PyData.canLay0, PyData.canLayAll0, pInts_lay]) (by have := pInts_depth st; simp only [PyData.depth, PyData.depthAll]; omega)
theorem eqv_run (st : List Int) (c : Int) : PyData.eqv (.tuple [.tuple (pInts st), .int c]) (.tuple [.tuple (pInts st), .int c]) = true := by
  have h : PyData.eqvAll (pInts st) (pInts st) = true := by
    have := eqv_tI st st
    simp only [PyData.eqv] at this
    exact this.trans (by simp)
  simp [PyData.eqv, PyData.eqvAll, h]
/-- the law's rows of gaps, with their addresses -/
def GQ (K : PySem.W.Frag) (H : Hp) (π : Int × Int → List Int) (qs : List (Addr × Addr)) (gs : List (Int × Int)) : Prop := Paired (fun (q : Addr × Addr) (g : Int × Int) => SqT K H q.1 [.int g.1, .int g.2, .ref q.2] ∧ SqT K H q.2 ((π g).map V.int)) qs gs
theorem GQ.mono {K : PySem.W.Frag} {H H' : Hp} {π : Int × Int → List Int} {qs : List (Addr × Addr)} {gs : List (Int × Int)} (e : Im K H H') (h : GQ K H π qs gs) : GQ K H' π qs gs := Paired.mapP h fun _ _ q => ⟨e _ _ q.1, e _ _ q.2⟩
theorem gaps_gq {K : PySem.W.Frag} {H : Hp} {π : Int × Int → List Int} : ∀ {us : List V} {gs : List (Int × Int)}, GapsV K H π us gs → ∃ qs : List (Addr × Addr), us = qs.map (fun q => V.ref q.1) ∧ GQ K H π qs gs
  | _, _, .nil => ⟨[], rfl, .nil⟩
  | _, _, .cons ⟨q, w, e, h1, h2⟩ r => by
    obtain ⟨qs, e2, h⟩ := gaps_gq r
    subst e
    subst e2
    exact ⟨(q, w) :: qs, rfl, .cons ⟨h1, h2⟩ h⟩
theorem gq_tups {K : PySem.W.Frag} {H : Hp} {π : Int × Int → List Int} : ∀ {qs : List (Addr × Addr)} {gs : List (Int × Int)}, GQ K H π qs gs → Tups K H (qs.map fun q => V.ref q.2) (gs.map π)
  | _, _, .nil => .nil
  | _, _, .cons ⟨_, h2⟩ r => .cons ⟨_, rfl, h2⟩ (gq_tups r)
theorem mix_tups {K : PySem.W.Frag} {H : Hp} {o o' : List Int} {gg : Int × Int} {fr : Addr} (hfr : SqT K H fr (o'.map V.int)) : ∀ {qs : List (Addr × Addr)} {gs : List (Int × Int)}, GQ K H (partOf o) qs gs → Tups K H ((qs.zip gs).map fun a => if a.2 = gg then V.ref fr else V.ref a.1.2) (gs.map (mixOf o gg o'))
  | _, _, .nil => .nil
  | q :: _, g :: _, .cons ⟨_, h2⟩ r => by
    refine .cons ?_ (mix_tups hfr r)
    by_cases c : g = gg
    · exact ⟨fr, if_pos c, by rw [show mixOf o gg o' g = o' from if_pos c]; exact hfr⟩
    · exact ⟨q.2, if_neg c, by rw [show mixOf o gg o' g = partOf o g from if_neg c]; exact h2⟩
theorem filter_all {α : Type} (l : List α) : (l.filter fun _ => true) = l := List.filter_eq_self.mpr fun _ _ => rfl
theorem foldl_le {α : Type} (f : α → Nat) (hf : ∀ a, 0 < f a) : ∀ (l : List α) (d : Nat), d ≤ l.foldl (fun d g => d * f g) d
  | [], _ => Nat.le_refl _
  | a :: l, d => Nat.le_trans (Nat.le_mul_of_pos_right d (hf a)) (foldl_le f hf l (d * f a))
theorem andF {H3 H : Hp} {σ : L2.St} {T1 T2 : TT} {R : Bool → Hp → Prop} (h : ∀ R : Bool → Hp → Prop, (∀ Hx, Same H3 Hx → R false Hx) → tAnd T1 T2 σ H R) (n : ∀ Hx, Same H3 Hx → R false Hx) : tAnd T1 T2 σ H R := h R n
theorem cut2 (xs : List V) : cutV xs none (some 2) = xs.take (min 2 xs.length) := by
  unfold cutV
  have h := HT.sIx_nat xs.length xs.length 2
  rw [HT.sIx_none]
  show List.take (HT.sIx xs.length xs.length (some ((2 : Nat) : Int)) - 0) (List.drop 0 xs) = _
  rw [h, List.drop_zero, Nat.sub_zero]
def dueTo (o : List Int) (gs : List (Int × Int)) (i : Nat) : Nat := (gs.take i).foldl (fun d g => d * (tr (partOf o g)).exts) (lw 0 (gs.map fun g => (partOf o g).length))
theorem dueTo_le (o : List Int) (gs : List (Int × Int)) (i : Nat) : dueTo o gs i ≤ due o gs := by
  have h := foldl_le (fun g => (tr (partOf o g)).exts) (fun g => Tree.exts_pos _) (gs.drop i) (dueTo o gs i)
  unfold dueTo at h
  rw [← List.foldl_append, List.take_append_drop] at h
  exact h
theorem dueTo_succ {o : List Int} {gs : List (Int × Int)} {i : Nat} {g : Int × Int} (h : gs[i]? = some g) : dueTo o gs (i + 1) = dueTo o gs i * (tr (partOf o g)).exts := by
  unfold dueTo
  rw [take_snoc h, List.foldl_append]
  rfl
theorem dueTo_all {o : List Int} {gs : List (Int × Int)} {i : Nat} (h : gs.length ≤ i) : dueTo o gs i = due o gs := by
  unfold dueTo due
  rw [List.take_of_length_le h]
theorem exts_le (t : Tree) : t.exts ≤ fac t.size := by
  rw [← t.exts_prod]
  exact Nat.le_mul_of_pos_right _ t.prod_pos
section
variable {W : Wd} (Z : Hd W)
include Z
theorem ok__law_right : Cal W 130 "_law_right" ["_law_draw", "_law_text", "_law_rules", "_law_mine"] (spRight W.K) := by
  refine cal_mk (d := d_Lright) Z.g_law_right Z.d_Lright sc_Lright bd_Lright (fun vs H Q E h => ?_) fun f cdv A outer s H vs Q E hr h => ?_
  · obtain ⟨_, _, _, _, _, _, _, _, _, rfl, _⟩ := h; rfl
  obtain ⟨d, bp, po, z, xs, rs, o, c, N, rfl, hd, hN, hz, hz20, hg, hb, ho, hnd, hrg, hrun, k⟩ := h
  refine ⟨_, pss_cons (ps_set (i := 4) sc_Lright.nd rfl (Or.inl rfl) (pe_cal (ok__law_gaps Z) (hr.mono (by decide)) (pa_cons (pv 1) (pa_cons (pv 3) pa_nil))))
      (pss_cons (ps_set (i := 5) sc_Lright.nd rfl (Or.inl rfl) (pe_cal (ok__law_woven Z) (hr.mono (by decide)) (pa_cons (pv 0) (pa_cons (pe_lc (own := [("_law_row", 6)]) (g := gName 6) rfl sc_Lright.nd (k_list W.K (pv 4)) (blkOk_by (own := [("_law_row", 6)]) (N := ["_law_draw", "_law_text", "_law_rules", "_law_mine", "_law_gaps_here", "_law_its", "_law_row", "_law_due", "_law_low", "_law_high", "_law_own", "_law_fresh", "_law_mixed", "_law_is_so", "_law_ask"]) (sc := defScope s_Lright) (by decide +kernel)) (fun _ _ _ _ _ => pg_name (i := 6) sc_Lright.nd rfl (Or.inl rfl)) (fun _ _ _ _ _ => pts_nil) (fun _ _ _ _ _ => (pe_ix (k_ix_tup W.K) (pv 6) pe_int (fun _ _ => rfl)))) pa_nil))))
      (pss_cons (ps_if (PW.pt (pw_or (pt_cmpR op_notBl (pe_cal (ok_are_one Z) (hr.mono (by decide)) (pa_cons (pv 1) (pa_cons (pv 2) (pa_cons (pv 3) (pa_cons (pv 5) pa_nil))))) pe_bl (nomark _)) (pw_or1 (pt_cmpR (k_op_neD W.K hr.units) (pe_run Z (hr.mono (by decide)) (pa_cons (pv 1) (pa_cons (pv 2) (pa_cons (pv 3) pa_nil)))) (pe_run Z (hr.mono (by decide)) (pa_cons (pv 1) (pa_cons (pv 2) (pa_cons (pv 5) pa_nil)))) (nomark _))))) (pss_one (ps_ret pe_bl)) pss_nil)
      (pss_cons (ps_if (pt_cmpR op_ne (pe_cal (ok_far_apart Z) (hr.mono (by decide)) (pa_cons (pv 1) (pa_cons (pv 2) (pa_cons (pv 3) (pa_cons (pv 5) pa_nil))))) (pe_cal (ok__law_pairs Z) (hr.mono (by decide)) (pa_cons (pv 3) (pa_cons (pv 5) pa_nil))) (nomark _)) (pss_one (ps_ret pe_bl)) pss_nil)
      (pss_cons (ps_set (i := 7) sc_Lright.nd rfl (Or.inl rfl) (pe_cal (ok__law_ways Z) (hr.mono (by decide)) (pa_cons (pe_lc (own := [("_law_row", 6)]) (g := gName 6) rfl sc_Lright.nd (k_list W.K (pv 4)) (blkOk_by (own := [("_law_row", 6)]) (N := ["_law_draw", "_law_text", "_law_rules", "_law_mine", "_law_gaps_here", "_law_its", "_law_row", "_law_due", "_law_low", "_law_high", "_law_own", "_law_fresh", "_law_mixed", "_law_is_so", "_law_ask"]) (sc := defScope s_Lright) (by decide +kernel)) (fun _ _ _ _ _ => pg_name (i := 6) sc_Lright.nd rfl (Or.inl rfl)) (fun _ _ _ _ _ => pts_nil) (fun _ _ _ _ _ => (pe_ix (k_ix_tup W.K) (pv 6) pe_int (fun _ _ => rfl)))) pa_nil)))
      (pss_cons (ps_for PassesOwn.never rfl (k_list W.K (pv 4)) (pg_tup rfl (pgs_cons (pg_name (i := 8) sc_Lright.nd rfl (Or.inr rfl)) (pgs_cons (pg_name (i := 9) sc_Lright.nd rfl (Or.inr rfl)) (pgs_cons (pg_name (i := 10) sc_Lright.nd rfl (Or.inl rfl)) pgs_nil)))) (pss_one (ps_set (i := 7) sc_Lright.nd rfl (Or.inl rfl) (pe_op op_mulW (pv 7) (pe_cal (ok_orders_of_tree Z) (hr.mono (by decide)) (pa_cons (pe_cal (ok_tree_of Z) (hr.mono (by decide)) (pa_cons (pv 10) pa_nil)) pa_nil))))))
      (pss_cons (ps_if (PW.pt (pw_or (pt_cmpR op_ne (pe_cal (ok_how_many_one Z) (hr.mono (by decide)) (pa_cons (pv 1) (pa_cons (pv 2) (pa_cons (pv 3) pa_nil)))) (pv 7) (nomark _)) (pw_or1 (pt_cmpR op_ne (pe_hmk Z (hr.mono (by decide)) (pv 5) (pv 1) (pv 2)) (pv 7) (nomark _))))) (pss_one (ps_ret pe_bl)) pss_nil)
      (pss_cons (ps_if (PW.pt (pw_and (pt_cmpR op_lt (pe_callB (k_len_seq W.K) (by rfl) Z.m_len (by decide +kernel) (pa_cons (pv 3) pa_nil)) pe_int (nomark _)) (pw_and1 (pt_cmpR op_ne (pe_cal (ok__law_heap Z) (hr.mono (by decide)) (pa_cons (pv 1) (pa_cons (pv 3) pa_nil))) (pv 7) (nomark _))))) (pss_one (ps_ret pe_bl)) pss_nil)
      (pss_cons (ps_for PassesOwn.never rfl (k_list W.K (pe_slice (k_sl_list W.K) (pv 4) po_none (po_some pe_int))) (pg_tup rfl (pgs_cons (pg_name (i := 8) sc_Lright.nd rfl (Or.inr rfl)) (pgs_cons (pg_name (i := 9) sc_Lright.nd rfl (Or.inr rfl)) (pgs_cons (pg_name (i := 10) sc_Lright.nd rfl (Or.inl rfl)) pgs_nil)))) (pss_cons (ps_set (i := 11) sc_Lright.nd rfl (Or.inr rfl) (pe_cal (ok_order_by Z) (hr.mono (by decide)) (pa_cons (pv 1) (pa_cons (pv 2) (pa_cons (pv 8) (pa_cons (pv 9) (pa_cons (pe_cal (ok__law_take Z) (hr.mono (by decide)) (pa_cons (pv 0) (pa_cons (pe_cal (ok_how_many_orders Z) (hr.mono (by decide)) (pa_cons (pv 1) (pa_cons (pv 2) (pa_cons (pv 8) (pa_cons (pv 9) pa_nil))))) pa_nil))) pa_nil)))))))
      (pss_cons (ps_set (i := 12) sc_Lright.nd rfl (Or.inr rfl) (pe_cal (ok__law_woven Z) (hr.mono (by decide)) (pa_cons (pv 0) (pa_cons (pe_lc (own := [("_law_row", 6)]) (g := gName 6) rfl sc_Lright.nd (k_list W.K (pv 4)) (blkOk_by (own := [("_law_row", 6)]) (N := ["_law_draw", "_law_text", "_law_rules", "_law_mine", "_law_gaps_here", "_law_its", "_law_row", "_law_due", "_law_low", "_law_high", "_law_own", "_law_fresh", "_law_mixed", "_law_is_so", "_law_ask"]) (sc := defScope s_Lright) (by decide +kernel)) (fun _ _ _ _ _ => pg_name (i := 6) sc_Lright.nd rfl (Or.inl rfl)) (fun _ _ _ _ _ => pts_nil) (fun _ _ _ _ _ => (pe_ifExp (pt_cmpR (k_op_neD W.K hr.units) (pe_slice (k_sl_tupA W.K) (pv 6) po_none (po_some pe_int)) (pe_tup (pa_cons (pv 8) (pa_cons (pv 9) pa_nil))) (nomark _)) (pe_ix (k_ix_tup W.K) (pv 6) pe_int (fun _ _ => rfl)) (pv 11)))) pa_nil))))
      (pss_cons (ps_set (i := 13) sc_Lright.nd rfl (Or.inl rfl) (pe_cmpR (k_op_eqD W.K hr.units) (pe_cal (ok_tree_of Z) (hr.mono (by decide)) (pa_cons (pv 11) pa_nil)) (pe_cal (ok_tree_of Z) (hr.mono (by decide)) (pa_cons (pv 10) pa_nil)) (nomark _)))
      (pss_cons (ps_if (pt_cmpR op_ne (pe_callB call_repr_bl (by rfl) Z.m_repr (by decide +kernel) (pa_cons (pe_cal (ok_are_one Z) (hr.mono (by decide)) (pa_cons (pv 1) (pa_cons (pv 2) (pa_cons (pv 3) (pa_cons (pv 12) pa_nil))))) pa_nil)) (pe_callB call_repr_bl (by rfl) Z.m_repr (by decide +kernel) (pa_cons (pv 13) pa_nil)) (nomark _)) (pss_one (ps_ret pe_bl)) pss_nil)
      (pss_one (ps_if (pt_cmpR (k_op_neD W.K hr.units) (pe_lc (own := [("_law_ask", 14)]) (g := gName 14) rfl sc_Lright.nd (k_tup W.K (pe_tup (pa_cons (pe_glob (v := .ref (He.ga W.K "far_apart")) (by rfl) Z.g_far_apart rfl) (pa_cons (pe_glob (v := .ref (He.ga W.K "exchange_row")) (by rfl) Z.g_exchange_row rfl) pa_nil)))) (blkOk_by (own := [("_law_ask", 14)]) (N := ["_law_draw", "_law_text", "_law_rules", "_law_mine", "_law_gaps_here", "_law_its", "_law_row", "_law_due", "_law_low", "_law_high", "_law_own", "_law_fresh", "_law_mixed", "_law_is_so", "_law_ask"]) (sc := defScope s_Lright) (by decide +kernel)) (fun _ _ _ _ _ => pg_name (i := 14) sc_Lright.nd rfl (Or.inl rfl)) (fun _ _ _ _ _ => pts_nil) (fun _ _ _ _ _ => (pe_cmpR op_isN (pe_callA (i := 14) (askA Z) (hr.mono (by decide)) (by rfl) (by first | exact Or.inl rfl | exact Or.inr (Or.inl rfl) | exact Or.inr (Or.inr rfl)) (pa_cons (pv 1) (pa_cons (pv 2) (pa_cons (pv 3) (pa_cons (pv 12) pa_nil))))) pe_non (nomark _)))) (pe_op op_rep (pe_lst (pa_cons (pe_not (pv 13)) pa_nil)) pe_int) (nomark _)) (pss_one (ps_ret pe_bl)) pss_nil)))))))
      (pss_one (ps_ret pe_bl)))))))))), ?_⟩
  have hol : o.length ≤ z.cps.size := by
    have := nodup_len (ys := upTo z.cps.size) hnd fun x hx => mem_upTo.mpr (hrg x hx)
    rwa [upTo_len] at this
  have hO : Ord z rs o (compl z.cps.size o) c := ⟨hnd, hrg, hrun, by omega⟩
  refine ⟨_, rfl, _, rfl, z, po, o, rfl, hz, ho, hrg, by omega, fun lg us H1 g1 hlg hgv hul => ?_⟩
  have hfl := Paired.length hgv
  refine ⟨_, rfl, _, rfl, lg, rfl, ⟨_, SqL.of hlg⟩, fun D hD => ?_⟩
  obtain ⟨qs, rfl, hq1⟩ := gaps_gq hgv
  have hq1 : GQ W.K H1 (partOf o) qs (FullIn z.cps.size o) := hq1
  clear hgv
  have hql : qs.length = (FullIn z.cps.size o).length := Paired.length hq1
  have hul' : qs.length ≤ 121 := by rwa [List.length_map] at hul
  refine lcF_list qs (fun _ => true) (fun q => V.ref q.2) hD (SqL.of hlg) (by rw [List.length_map]) (by omega) (fun i v q hv hq H2 R N' g2 hR hN' => ?_) (fun H2 g2 hD2 => ?_)
  · have ev : v = .ref q.1 := by
      rw [List.getElem?_map, hq] at hv
      cases hv
      rfl
    subst ev
    obtain ⟨g, hg', hqq⟩ := Paired.at hq1 hq
    exact ⟨rfl, _, rfl, q.1, _, _, _, rfl, rfl, g2.tS hqq.1, rfl, hR rfl _ (Same.refl _)⟩
  rw [filter_all] at hD2
  have g12 := g1.trans g2
  have hlens : (((FullIn z.cps.size o).map (partOf o)).map List.length).sum = o.length := by
    rw [List.map_map]
    exact lens_sum hrg hnd
  refine ⟨d, D, _, (FullIn z.cps.size o).map (partOf o), N, rfl, hd.same g12, by omega, SqL.of hD2, gq_tups (hq1.mono g2.imS), fun p hp => ?_, by rw [List.length_map]; exact hul', by rw [List.length_flatten, hlens]; omega, fun w q H3 b3 d3 hw hq => ?_⟩
  · obtain ⟨g, hg', rfl⟩ := List.mem_map.mp hp
    exact (full_sub hg').2
  obtain ⟨wm, wn, wl, wp⟩ := weave_own hrg hnd hw
  have hwrg : ∀ x ∈ w, 0 ≤ x ∧ x < (z.cps.size : Int) := fun x hx => hrg x ((wm x).mp hx)
  have hOw : Ord z rs w (compl z.cps.size o) c := ⟨wn, hwrg, by rw [same_run wn hnd hrg wm fun g hg => by rw [wp g hg]]; exact hrun, by omega⟩
  have hF : forest (z.cps.size : Int) o (compl z.cps.size o) = forest (z.cps.size : Int) w (compl z.cps.size o) := by
    rw [eq_comm, forest_iff]
    intro g hg
    rw [wp g hg]
  have b03 := (g12.but [d]).tr b3
  have i3 : Im W.K H H3 := dIm b03 hd
  have hb3 := hb.mono i3
  have ho3 := i3 _ _ ho
  have hq3 : SqT W.K H3 q (w.map V.int) := hq.sq
  refine ⟨_, rfl, _, rfl, _, rfl, _, rfl, z, bp, po, q, xs, rs, o, w, _, c, c, rfl, hz, hg, hb3, ho3, hq3, hO, hOw, fun H4 g4 => ⟨_, _, rfl, rfl, _, rfl, ?_⟩⟩
  rw [decide_eq_true hF]
  have g34 := g4
  refine ⟨_, rfl, _, rfl, _, rfl, bp, po, xs, z, rs, o, _, c, rfl, hz, hg, hb3.mono g34.imS, g34.tS ho3, hnd, hrg, hrun, fun a1 a2 H5 g5 ha1 ha2 => ?_⟩
  have g35 := g34.trans g5
  refine ⟨_, rfl, _, rfl, _, rfl, bp, q, xs, z, rs, w, _, c, rfl, hz, hg, hb3.mono g35.imS, g35.tS hq3, wn, hwrg, hOw.run, fun a3 a4 H6 g6 ha3 ha4 => ?_⟩
  have g36 := g35.trans g6
  refine ⟨_, _, dp_run (g6 _ _ ha1) (g6 _ _ ha2), dp_run ha3 ha4, shaped_run _ _, shaped_run _ _, _, rfl, ?_⟩
  rw [eqv_run]
  refine iteF ?_
  refine ⟨_, rfl, _, rfl, _, rfl, _, rfl, z, bp, po, q, xs, rs, o, w, _, c, c, rfl, hz, hg, hb3.mono g36.imS, g36.tS ho3, g36.tS hq3, hO, hOw, fun x hx => (wm x).mpr hx, fun H7 g7 => ?_⟩
  rw [if_pos hF]
  have g37 := g36.trans g7
  refine ⟨_, rfl, _, rfl, po, q, o, w, rfl, g37.tS ho3, hq.same g37, fun x hx => (wm x).mpr hx, by omega, fun H8 g8 => ⟨rfl, _, rfl, ?_⟩⟩
  have g38 := g37.trans g8
  rw [decide_eq_true rfl]
  refine iteF ?_
  have hlg3 : H3 lg = some (.lst (qs.map fun q => V.ref q.1)) := by
    refine b3 _ _ (fun e => ?_) (g2 _ _ hlg)
    obtain ⟨kv, hkv⟩ := (hd.same g12).get
    simp at e
    rw [← e, g2 _ _ hlg] at hkv
    cases hkv
  have hq13 : GQ W.K H3 (partOf o) qs (FullIn z.cps.size o) := (hq1.mono g2.imS).mono (dIm b3 (hd.same g12))
  have hlg8 := g38 _ _ hlg3
  have hq18 := hq13.mono g38.imS
  refine ⟨_, rfl, lg, rfl, ⟨_, SqL.of hlg8⟩, fun D2 hD2 => ?_⟩
  refine lcF_list qs (fun _ => true) (fun q => V.ref q.2) hD2 (SqL.of hlg8) (by rw [List.length_map]) (by omega) (fun i v q hv hq H2 R N' g2 hR hN' => ?_) (fun H9 g9 hD9 => ?_)
  · have ev : v = .ref q.1 := by
      rw [List.getElem?_map, hq] at hv
      cases hv
      rfl
    subst ev
    obtain ⟨g, hg', hqq⟩ := Paired.at hq18 hq
    exact ⟨rfl, _, rfl, q.1, _, _, _, rfl, rfl, g2.tS hqq.1, rfl, hR rfl _ (Same.refl _)⟩
  rw [filter_all] at hD9
  have g39 := g38.trans g9
  refine ⟨D2, _, _, rfl, SqL.of hD9, gq_tups (hq18.mono g9.imS), by rw [hlens]; omega, by rw [List.length_map]; omega, fun H10 g10 => ?_⟩
  have g310 := g39.trans g10
  have hlg10 := g310 _ _ hlg3
  rw [List.map_map]
  have hd0 : lw 0 ((FullIn z.cps.size o).map (List.length ∘ partOf o)) = dueTo o (FullIn z.cps.size o) 0 := rfl
  rw [hd0]
  have hdl := due_le hrg hnd
  have h900 : due o (FullIn z.cps.size o) < 2 ^ 900 := Nat.lt_of_le_of_lt hdl (fac_lt (by omega))
  refine ⟨_, rfl, lg, rfl, ⟨_, SqL.of hlg10⟩, for_list (xs := qs.map fun q => V.ref q.1) (fun i σ H' => ∃ (w8 w9 w10 : Option V), σ = [some (.ref d), some (.str z), some (.ref bp), some (.ref po), some (.ref lg), some (.ref q), none, some (.int ((dueTo o (FullIn z.cps.size o) i : Nat) : Int)), w8, w9, w10, none, none, none, none] ∧ Same H10 H')
    ⟨_, _, _, rfl, Same.refl _⟩ (fun i σ H' _ w => ?_) (fun i x σ H' hx w => ?_) (fun σ H' w => ?_)⟩
  · obtain ⟨_, _, _, _, g⟩ := w
    exact g.seq (SqL.of hlg10)
  · obtain ⟨w8, w9, w10, rfl, g⟩ := w
    rw [List.getElem?_map] at hx
    obtain ⟨qq, hqq, rfl⟩ : ∃ qq, qs[i]? = some qq ∧ V.ref qq.1 = x := by
      cases e : qs[i]? with
      | none => rw [e] at hx; cases hx
      | some qq => rw [e] at hx; cases hx; exact ⟨qq, rfl, rfl⟩
    obtain ⟨gg, hgg, s1, s2⟩ := Paired.at hq13 hqq
    have hgm := (full_sub (List.mem_of_getElem? hgg)).1
    have gA := g310.trans g
    have hgo := gap_ok hgm
    have hpr : ∀ x ∈ partOf o gg, gg.1 < x ∧ x < gg.2 := fun x hx => (mem_part.mp hx).2
    have hpl : (partOf o gg).length ≤ 20 := Nat.le_trans (List.length_filter_le _ _) (by omega)
    have hpn : (partOf o gg).Nodup := hnd.filter _
    refine ⟨qq.1, _, rfl, gA.tS s1, rfl, _, _, rfl, _, _, rfl, _, _, rfl, rfl, ?_⟩
    refine ⟨_, rfl, _, rfl, qq.2, partOf o gg, rfl, gA.tS s2, by omega, hpn, fun x hx => by have := hpr x hx; omega, fun v H11 g11 ht => ?_⟩
    have hth := tr_height (partOf o gg)
    have hts := tr_size (partOf o gg) hpn
    refine ⟨v, _, rfl, ht, tr_inB _ _ _ fun x hx => by have := hpr x hx; omega, by omega, by omega, fun H12 g12 => ?_⟩
    have e1 : dueTo o (FullIn z.cps.size o) i < 2 ^ 900 := Nat.lt_of_le_of_lt (dueTo_le _ _ _) h900
    have e2 : (tr (partOf o gg)).exts < 2 ^ 900 := Nat.lt_of_le_of_lt (exts_le _) (fac_lt (by omega))
    refine ⟨_, _, rfl, rfl, wide_mul (a := 900) (b := 900) e1 e2 (by decide) (by decide) (by decide), some (.int gg.1), some (.int gg.2), some (.ref qq.2), ?_, g.trans (g11.trans g12)⟩
    rw [dueTo_succ hgg]
    rfl
  obtain ⟨w8, w9, w10, rfl, g⟩ := w
  rw [dueTo_all (by rw [List.length_map, hql]; exact Nat.le_refl _)]
  have g3a := g310.trans g
  refine ⟨_, rfl, _, rfl, _, rfl, z, bp, po, xs, rs, o, _, c, rfl, hz, hg, hb3.mono g3a.imS, g3a.tS ho3, hO, fun H11 g11 => ?_⟩
  rw [count_eq hrg hnd]
  refine ⟨_, rfl, rfl, _, rfl, ?_⟩
  rw [decide_eq_true rfl]
  have g3b := g3a.trans g11
  refine ⟨_, rfl, _, rfl, _, rfl, rfl, z, bp, q, xs, rs, w, _, c, rfl, hz, hg, hb3.mono g3b.imS, g3b.tS hq3, hOw, fun H12 g12 => ?_⟩
  rw [← hF, wl, count_eq hrg hnd]
  refine ⟨_, rfl, rfl, _, rfl, ?_⟩
  rw [decide_eq_true rfl]
  refine iteF ?_
  have g3c := g3b.trans g12
  dsimp only [tNext, tSeq, tIfS]
  refine andF (H3 := H3) (fun R next => ?_) fun H13 g13 => ?_
  · refine ⟨_, rfl, po, _, rfl, .inr (g3c.tS ho3), _, _, rfl, rfl, _, rfl, ?_⟩
    refine ite2 (fun h7 => ?_) (fun _ => next H12 g3c)
    rw [List.length_map] at h7
    obtain ⟨E, hEn, hEl, hE, hElen⟩ := heap_list hrg hnd (by have := of_decide_eq_true h7; omega)
    refine ⟨_, rfl, _, rfl, z, po, o, E, rfl, hz, g3c.tS ho3, hnd, hrg, by omega, hEn, hEl, hE, fun Hy gy => ?_⟩
    rw [hElen]
    refine ⟨_, rfl, rfl, _, rfl, ?_⟩
    rw [decide_eq_true rfl]
    exact next Hy (g3c.trans gy)
  refine iteF ?_
  have b13 := b03.seq g13
  have d13 := d3.same g13
  have hlg13 := g13 _ _ hlg3
  refine ⟨_, rfl, _, rfl, lg, _, rfl, SqL.of hlg13, fun p hp => ?_⟩
  rw [cut2]
  have n14 := same_new hp (.lst ((qs.map fun q => V.ref q.1).take (min 2 (qs.map fun q => V.ref q.1).length)))
  have hp14 : upd H13 p (.lst ((qs.map fun q => V.ref q.1).take (min 2 (qs.map fun q => V.ref q.1).length))) p = _ := upd_same
  have b14 := b13.seq n14
  have d14 := d13.same n14
  have hlg14 := n14 _ _ hlg13
  generalize upd H13 p (.lst ((qs.map fun q => V.ref q.1).take (min 2 (qs.map fun q => V.ref q.1).length))) = H14 at n14 hp14 b14 d14 hlg14
  have nlp : p ≠ d := fun e => by
    obtain ⟨kv, hkv⟩ := d14.get
    rw [← e, hp14] at hkv
    cases hkv
  have nlg : lg ≠ d := fun e => by
    obtain ⟨kv, hkv⟩ := d14.get
    rw [← e, hlg14] at hkv
    cases hkv
  have hq3d := hq
  refine ⟨p, rfl, ⟨_, SqL.of hp14⟩, for_list (xs := (qs.map fun q => V.ref q.1).take (min 2 (qs.map fun q => V.ref q.1).length)) (fun i σ H' => ∃ (w8 w9 w10 w11 w12 w13 : Option V), σ = [some (.ref d), some (.str z), some (.ref bp), some (.ref po), some (.ref lg), some (.ref q), none, some (.int ((due o (FullIn z.cps.size o) : Nat) : Int)), w8, w9, w10, w11, w12, w13, none] ∧ But [d] H14 H' ∧ DrawAt H' d (N + 120 + 121 * i))
    ⟨_, _, _, _, _, _, rfl, (Same.refl H14).but _, d14⟩ (fun i σ H' _ w => ?_) (fun i x σ H' hx w => ?_) (fun σ H' w => ?_)⟩
  · obtain ⟨_, _, _, _, _, _, _, b, dd⟩ := w
    exact SqL.of (b _ _ (by simpa using nlp) hp14)
  · obtain ⟨w8, w9, w10, w11, w12, w13, rfl, b, dd⟩ := w
    have hi1 : i < min 2 (qs.map fun q => V.ref q.1).length := by
      have := (List.getElem?_eq_some_iff.mp hx).1
      rw [List.length_take] at this
      omega
    have hi2 : i < 2 := by omega
    rw [List.getElem?_take, if_pos hi1, List.getElem?_map] at hx
    obtain ⟨qq, hqq, rfl⟩ : ∃ qq, qs[i]? = some qq ∧ V.ref qq.1 = x := by
      cases e : qs[i]? with
      | none => rw [e] at hx; cases hx
      | some qq => rw [e] at hx; cases hx; exact ⟨qq, rfl, rfl⟩
    obtain ⟨gg, hgg, s1, s2⟩ := Paired.at hq13 hqq
    have hgf := List.mem_of_getElem? hgg
    have hgm := (full_sub hgf).1
    have hgo := gap_ok hgm
    have im1 : Im W.K H3 H' := (g13.imS.trans n14.imS).trans (dIm b d14)
    have imH : Im W.K H H' := i3.trans ((g13.imS.trans n14.imS).trans (dIm b d14))
    have hb' := hb.mono imH
    have hpr : ∀ x ∈ partOf o gg, gg.1 < x ∧ x < gg.2 := fun x hx => (mem_part.mp hx).2
    have hpl : (partOf o gg).length ≤ 20 := Nat.le_trans (List.length_filter_le _ _) (by omega)
    have hpn : (partOf o gg).Nodup := hnd.filter _
    have hvo : Vord (pr z rs) gg.1 gg.2 (partOf o gg) := (run_gaps hnd hrg hrun).2.2 gg hgm
    have hpos := hvo.pos.1
    have hord := ord_lt (pr := pr z rs) hgo.1 (by omega)
    refine ⟨qq.1, _, rfl, im1 _ _ s1, rfl, _, _, rfl, _, _, rfl, _, _, rfl, rfl, ?_⟩
    refine ⟨_, rfl, _, rfl, _, rfl, _, rfl, _, rfl, _, rfl, _, rfl, _, rfl, _, rfl, z, bp, xs, rs, gg.1, gg.2, rfl, hz, hg, hb', hgo.2.1, hgo.1, hgo.2.2.1, fun H15 g15 => ?_⟩
    refine ⟨d, _, N + 120 + 121 * i, rfl, dd.same g15, by omega, by omega, natW hord, fun r H16 b16 d16 r0 r1 => ?_⟩
    have im16 : Im W.K H' H16 := g15.imS.trans (dIm b16 (dd.same g15))
    refine ⟨z, bp, xs, rs, gg.1, gg.2, r, rfl, hz, hg, hb'.mono im16, hgo.2.1, hgo.1, hgo.2.2.1, r0, r1, fun o' fr H17 g17 hv hfr => ?_⟩
    have im17 : Im W.K H' H17 := im16.trans g17.imS
    have b17 : But [d] H' H17 := ((g15.but [d]).tr b16).seq g17
    have d17 : DrawAt H17 d (N + 120 + 121 * i + 1) := d16.same g17
    have hlg17 := (b.tr b17) _ _ (by simpa using nlg) hlg14
    have hq17 := hq13.mono (im1.trans im17)
    refine ⟨_, rfl, _, rfl, lg, rfl, ⟨_, SqL.of hlg17⟩, fun D4 hD4 => ?_⟩
    have hzl : (qs.zip (FullIn z.cps.size o)).length = qs.length := by rw [List.length_zip]; omega
    refine lcF_list (qs.zip (FullIn z.cps.size o)) (fun _ => true) (fun a => if a.2 = gg then V.ref fr else V.ref a.1.2) hD4 (SqL.of hlg17) (by rw [List.length_map, hzl]) (by omega) (fun j v a hv ha H18 R N' g18 hR hN' => ?_) (fun H18 g18 hD18 => ?_)
    · obtain ⟨hj1, hj2⟩ := List.getElem?_zip_eq_some.mp ha
      have ev : v = .ref a.1.1 := by
        rw [List.getElem?_map, hj1] at hv
        cases hv
        rfl
      subst ev
      obtain ⟨g2, hg2', t1, t2⟩ := Paired.at hq17 hj1
      rw [hj2] at hg2'
      cases hg2'
      refine ⟨rfl, _, rfl, _, rfl, ?_⟩
      dsimp only [tNoPart]
      refine slA_end (g18.tS t1) fun q5 H19 g19 hq5 => ?_
      refine ⟨_, rfl, _, rfl, by show 2 ≤ sizeLine; decide, fun t ht => ?_⟩
      have n20 := same_new ht (.tup [.int gg.1, .int gg.2])
      have hq5' : SqT W.K H19 q5 ([a.2.1, a.2.2].map V.int) := hq5
      refine ⟨_, _, dp_tI (n20.tS hq5'), dp_tI (ns := [gg.1, gg.2]) (SqT.of upd_same), shaped_tI _, shaped_tI _, _, rfl, ?_⟩
      rw [eqv_tI]
      have n1820 := g19.trans n20
      by_cases ce : a.2 = gg
      · rw [decide_eq_true (by rw [ce])]
        have := hR rfl _ n1820
        rw [if_pos ce] at this
        exact iteF ⟨_, rfl, this⟩
      · rw [decide_eq_false (fun e => ce (by injection e with e1 e2; injection e2 with e2 _; exact Prod.ext e1 e2))]
        have := hR rfl _ n1820
        rw [if_neg ce] at this
        exact iteT ⟨_, rfl, _, _, _, _, rfl, rfl, n1820.tS (g18.tS t1), rfl, this⟩
    rw [filter_all] at hD18
    have im18 := im17.trans g18.imS
    have hmixl : ((FullIn z.cps.size o).map (mixOf o gg o')).map List.length = (FullIn z.cps.size o).map fun g => (partOf o g).length := by
      rw [List.map_map]
      exact List.map_congr_left fun g _ => mix_len hnd hgf hv hv.nodup g
    refine ⟨d, D4, _, (FullIn z.cps.size o).map (mixOf o gg o'), N + 120 + 121 * i + 1, rfl, d17.same g18, by omega, SqL.of hD18, mix_tups (SqT.of (g18 _ _ hfr)) (hq17.mono g18.imS), fun p hp => ?_, by rw [List.length_map, hzl]; exact hul', by rw [List.length_flatten, hmixl, lens_sum hrg hnd]; omega, fun mw q6 H20 b20 d20 hw2 hq6 => ?_⟩
    · obtain ⟨g, hg', rfl⟩ := List.mem_map.mp hp
      have h1 := (full_sub hg').2
      have h2 := mix_len hnd hgf hv hv.nodup g
      intro e
      rw [e] at h2
      exact h1 (List.length_eq_zero_iff.mp h2.symm)
    obtain ⟨mm, mn, ml, ⟨c', mrun⟩, miff⟩ := weave_mix hrg hnd hrun hgf hv hv.nodup hw2
    have b1820 : But [d] H17 H20 := (g18.but [d]).tr b20
    have im20 : Im W.K H17 H20 := dIm b1820 d17
    have hOm : Ord z rs mw (compl z.cps.size o) c' := ⟨mn, fun x hx => hrg x ((mm x).mp hx), mrun, by omega⟩
    have ol' : o'.length ≤ 20 := by
      have h2 := mix_len hnd hgf hv hv.nodup gg
      rw [show mixOf o gg o' gg = o' from if_pos rfl] at h2
      omega
    have or' : ∀ x ∈ o', 0 ≤ x ∧ x < 120 := fun x hx => by
      have := (hv.mem x).mp hx
      omega
    have hth := tr_height (partOf o gg)
    have hth' := tr_height o'
    refine ⟨_, rfl, fr, o', rfl, im20 _ _ (SqT.of hfr), by omega, hv.nodup, or', fun v1 H21 g21 u1 => ?_⟩
    refine ⟨_, rfl, qq.2, partOf o gg, rfl, g21.tS (im20 _ _ ((im1.trans im17) _ _ s2)), by omega, hpn, fun x hx => by have := hpr x hx; omega, fun v2 H22 g22 u2 => ?_⟩
    refine ⟨_, _, (u1.mono g22.imS).dp, u2.dp, shaped_tree (by omega), shaped_tree (by omega), _, rfl, ?_⟩
    rw [Tree.py_eqv]
    have im22 : Im W.K H H22 := ((imH.trans im17).trans im20).trans (g21.trans g22).imS
    have hso : decide (forest (z.cps.size : Int) o (compl z.cps.size o) = forest (z.cps.size : Int) mw (compl z.cps.size o)) = decide (tr o' = tr (partOf o gg)) := decide_eq_decide.mpr miff
    have hq622 : SqT W.K H22 q6 (mw.map V.int) := (hq6.same (g21.trans g22)).sq
    refine ⟨_, rfl, _, rfl, _, rfl, z, bp, po, q6, xs, rs, o, mw, _, c, c', rfl, hz, hg, hb.mono im22, im22 _ _ ho, hq622, hO, hOm, fun H23 g23 => ?_⟩
    rw [hso]
    refine ⟨_, rfl, _, rfl, _, rfl, rfl, _, rfl, ?_⟩
    rw [decide_eq_true rfl]
    refine iteF ?_
    refine ⟨by show 2 ≤ sizeLine; decide, fun T hT => ⟨T, rfl, ⟨_, SqT.of upd_same⟩, fun D5 hD5 => ?_⟩⟩
    have nT := same_new hT (.tup [.ref (farA W.K), .ref (excA W.K)])
    have im23 : Im W.K H _ := (im22.trans g23.imS).trans nT.imS
    refine lcF_tup (xs := [.ref (farA W.K), .ref (excA W.K)]) [farA W.K, excA W.K] (fun _ => true) (fun _ => V.bl (!decide (tr o' = tr (partOf o gg)))) hD5 (SqT.of upd_same) rfl (by show 2 ≤ 100000; decide) (fun j v a hv ha H24 R N' g24 hR hN' => ?_) (fun H24 g24 hD24 => ?_)
    · have ev : v = .ref a := by
        match j, hv, ha with
        | 0, hv, ha => cases hv; cases ha; rfl
        | 1, hv, ha => cases hv; cases ha; rfl
      have ea : a = farA W.K ∨ a = excA W.K := by
        match j, ha with
        | 0, ha => cases ha; exact .inl rfl
        | 1, ha => cases ha; exact .inr rfl
      subst ev
      refine ⟨rfl, a, spAsk W.K, rfl, if_pos ea, _, rfl, _, rfl, _, rfl, _, rfl, z, bp, po, q6, xs, rs, o, mw, _, c, c', rfl, hz, hg, (hb.mono im23).mono g24.imS, g24.imS _ _ (im23 _ _ ho), g24.imS _ _ (nT.imS _ _ (g23.imS _ _ hq622)), hO, hOm, fun x hx => (mm x).mpr hx, fun v H25 g25 hv25 => ⟨rfl, ?_⟩⟩
      have := hR rfl H25 g25
      rw [← hso, ← hv25] at this
      exact this
    have g20 := (((g21.trans g22).trans g23).trans nT).trans g24
    have bE : But [d] H14 H24 := (b.tr (b17.tr b1820)).seq g20
    have dE := d20.same g20
    have eB : ∀ B : Bool, SeqAt.shaped (.list [.bool B, .bool B]) = true ∧ PyData.eqv (.list [.bool B, .bool B]) (.list [.bool B, .bool B]) = true := fun B => by cases B <;> decide +kernel
    refine ⟨_, rfl, _, rfl, by show 1 ≤ sizeLine; decide, fun l5 hl5 => ⟨l5, 2, _, rfl, rfl, upd_same, by decide, by decide, by show 1 * 2 ≤ sizeLine; decide, fun l6 hl6 => ?_⟩⟩
    have n5 := same_new hl5 (.lst [.bl (!decide (tr o' = tr (partOf o gg)))])
    have n6 := same_new hl6 (.lst (List.replicate (2 : Int).toNat [.bl (!decide (tr o' = tr (partOf o gg)))]).flatten)
    refine ⟨.list [.bool (!decide (tr o' = tr (partOf o gg))), .bool (!decide (tr o' = tr (partOf o gg)))], .list [.bool (!decide (tr o' = tr (partOf o gg))), .bool (!decide (tr o' = tr (partOf o gg)))], .lst (SqL.of (n6 _ _ (n5 _ _ hD24))) (.cons (.bl _) (.cons (.bl _) .nil)), .lst (SqL.of upd_same) (.cons (.bl _) (.cons (.bl _) .nil)), (eB _).1, (eB _).1, _, rfl, ?_⟩
    rw [(eB _).2]
    refine iteF ?_
    exact ⟨_, _, _, _, _, _, rfl, (bE.seq n5).seq n6, ((dE.same n5).same n6).up (by omega)⟩
  · obtain ⟨w8, w9, w10, w11, w12, w13, rfl, b, dd⟩ := w
    exact k H' (b14.tr b) (dd.up (by rw [List.length_take]; omega))
end
end Sl
/-! SlL7 -/
namespace Sl
open PySem PySem.Spec PyProof.Rows L2
theorem sc_Lmany_right : FnScope ["_law_some", "_law_text", "_law_rules", "_law_first", "_law_second", "_law_mine", "_law_found", "_law_k", "_law_odd", "_law_told", "_law_places"] ["_law_some"] (defScope s_Lmany_right) := ⟨rfl, rfl, rfl, by decide +kernel, rfl, by decide +kernel, by decide +kernel⟩
theorem bd_Lmany_right : Bnd d_Lmany_right ["_law_some"] := fun _ _ _ _ _ _ us hl => match us, hl with | [_], _ => rfl
theorem sc_law : FnScope ["_law_script", "_law_k", "_law_draw", "_law_some", "_law_many", "_law_text", "_law_rules", "_law_most"] ["_law_script"] (defScope s_law) := ⟨rfl, rfl, rfl, by decide +kernel, rfl, by decide +kernel, by decide +kernel⟩
theorem bd_law : Bnd d_law ["_law_script"] := fun _ _ _ _ _ _ us hl => match us, hl with | [_], _ => rfl
def spManyRight (K : PySem.W.Frag) : Sp := fun vs H Q _ => ∃ (l : Addr) (a b : Nat), vs = [.ref l] ∧ H l = some (.lst (sgs [a, b])) ∧ isLet a ∧ isLet b ∧ a ≠ b ∧ ∀ H', Q (.bl true) H'
/-! ### the word of twenty gaps -/
def wordC (a b : Nat) : Str := strRep (strRep (sg a) 2 ++ sg b) 20
def rulesC (a : Nat) : List Rule := [⟨42, a, 42, 1⟩]
theorem wordC_list (a b : Nat) : (wordC a b).cps.toList = (List.replicate 20 [a, a, b]).flatten := by
  unfold wordC
  have h2 : (strRep (sg a) 2).cps.toList = [a, a] := by rw [strRep_list]; rfl
  have h3 : (strRep (sg a) 2 ++ sg b).cps.toList = [a, a, b] := by
    show ((strRep (sg a) 2).cps ++ (sg b).cps).toList = _
    rw [Array.toList_append, h2]
    rfl
  rw [strRep_list, h3]
theorem wordC_size (a b : Nat) : (wordC a b).cps.size = 60 := by
  rw [← Array.length_toList, wordC_list]
  rfl
theorem wordC_good {a b : Nat} (ha : isLet a) (hb : isLet b) : GoodW (wordC a b) := by
  refine ⟨by rw [wordC_size]; decide, fun c hc => ?_⟩
  rw [wordC_list] at hc
  obtain ⟨l, hl, h⟩ := List.mem_flatten.mp hc
  obtain ⟨_, rfl⟩ := List.mem_replicate.mp hl
  simp at h
  rcases h with h | h <;> rw [h] <;> assumption
theorem wordC_at {a b : Nat} {x : Int} (h0 : 0 ≤ x) (h1 : x < 60) : signAt (wordC a b) x = if x % 3 = 2 then b else a := by
  unfold signAt
  rw [if_neg (by omega), wordC_list]
  have key : ∀ n : Nat, n < 60 → ((List.replicate 20 [a, a, b]).flatten)[n]? = some (if (n : Int) % 3 = 2 then b else a) := fun n hn => by
    have : n = 0 ∨ n = 1 ∨ n = 2 ∨ n = 3 ∨ n = 4 ∨ n = 5 ∨ n = 6 ∨ n = 7 ∨ n = 8 ∨ n = 9 ∨ n = 10 ∨ n = 11 ∨ n = 12 ∨ n = 13 ∨ n = 14 ∨ n = 15 ∨ n = 16 ∨ n = 17 ∨ n = 18 ∨ n = 19 ∨ n = 20 ∨ n = 21 ∨ n = 22 ∨ n = 23 ∨ n = 24 ∨ n = 25 ∨ n = 26 ∨ n = 27 ∨ n = 28 ∨ n = 29 ∨ n = 30 ∨ n = 31 ∨ n = 32 ∨ n = 33 ∨ n = 34 ∨ n = 35 ∨ n = 36 ∨ n = 37 ∨ n = 38 ∨ n = 39 ∨ n = 40 ∨ n = 41 ∨ n = 42 ∨ n = 43 ∨ n = 44 ∨ n = 45 ∨ n = 46 ∨ n = 47 ∨ n = 48 ∨ n = 49 ∨ n = 50 ∨ n = 51 ∨ n = 52 ∨ n = 53 ∨ n = 54 ∨ n = 55 ∨ n = 56 ∨ n = 57 ∨ n = 58 ∨ n = 59 := by omega
    rcases this with h | h | h | h | h | h | h | h | h | h | h | h | h | h | h | h | h | h | h | h | h | h | h | h | h | h | h | h | h | h | h | h | h | h | h | h | h | h | h | h | h | h | h | h | h | h | h | h | h | h | h | h | h | h | h | h | h | h | h | h <;> subst h <;> rfl
  rw [key x.toNat (by omega), show ((x.toNat : Nat) : Int) = x by omega]
  rfl
theorem prC_eq {a b : Nat} (hab : a ≠ b) {x : Int} (h0 : 0 ≤ x) (h1 : x < 60) (h2 : x % 3 ≠ 2) (p q : Int) : pr (wordC a b) (rulesC a) p x q = prC p x q := by
  unfold pr prC
  rw [wordC_at h0 h1, if_neg h2, if_neg h2]
  have : prices (rulesC a) (signAt (wordC a b) p) a (signAt (wordC a b) q) = [1] := by
    unfold prices rulesC
    simp [fits]
  rw [this]
  rfl
theorem ordC {a b : Nat} (hab : a ≠ b) {o : List Int} (hrg : ∀ x ∈ o, (0 ≤ x ∧ x < 60) ∧ x % 3 ≠ 2) (hnd : o.Nodup) (hrun : runTo prC 60 (upTo 60) o = some (compl 60 (mineC 20), 40)) (hl : o.length ≤ 59) :
    Ord (wordC a b) (rulesC a) o (compl 60 (mineC 20)) 40 := by
  refine ⟨hnd, fun x hx => ?_, ?_, hl⟩
  · rw [wordC_size]
    exact (hrg x hx).1
  · rw [wordC_size, ← hrun]
    exact runTo_congr o _ fun p q x hx => prC_eq hab (hrg x hx).1.1 (hrg x hx).1.2 (hrg x hx).2 p q
section
variable {W : Wd} (Z : Hd W)
include Z
theorem ok__law_many_right : Cal W 130 "_law_many_right" ["_law_some"] (spManyRight W.K) := by
  refine cal_mk (d := d_Lmany_right) Z.g_law_many_right Z.d_Lmany_right sc_Lmany_right bd_Lmany_right (fun vs H Q E h => ?_) fun f cdv A outer s H vs Q E hr h => ?_
  · obtain ⟨_, _, _, rfl, _⟩ := h; rfl
  obtain ⟨l, a, b, rfl, hl, ha, hb, hab, k⟩ := h
  refine ⟨_, pss_cons (ps_asg (pe_tup (pa_cons (pe_op op_rep_str (pe_op op_add_str (pe_op op_rep_str (pe_ix (k_ix_list W.K) (pv 0) pe_int (fun _ _ => rfl)) pe_int) (pe_ix (k_ix_list W.K) (pv 0) pe_int (fun _ _ => rfl))) pe_int) (pa_cons (pe_tup (pa_cons (pe_tup (pa_cons pe_str (pa_cons (pe_ix (k_ix_list W.K) (pv 0) pe_int (fun _ _ => rfl)) (pa_cons pe_str (pa_cons pe_int pa_nil))))) pa_nil)) pa_nil))) (pg_tup rfl (pgs_cons (pg_name (i := 1) sc_Lmany_right.nd rfl (Or.inr rfl)) (pgs_cons (pg_name (i := 2) sc_Lmany_right.nd rfl (Or.inr rfl)) pgs_nil))))
      (pss_cons (ps_par (i := 3) (j := 4) (by rfl) sc_Lmany_right.nd rfl rfl (by decide) rfl rfl (pa_cons (pe_tupRg3 (by rfl) Z.m_tuple (by rfl) Z.m_range (pa_cons pe_int (pa_cons pe_int (pa_cons pe_int pa_nil)))) (pa_cons (pe_tupRg3 (by rfl) Z.m_tuple (by rfl) Z.m_range (pa_cons pe_int (pa_cons pe_int (pa_cons pe_int pa_nil)))) pa_nil)) (by rfl))
      (pss_cons (ps_asg (pe_tup (pa_cons (pe_tup pa_nil) (pa_cons pe_int pa_nil))) (pg_tup rfl (pgs_cons (pg_name (i := 5) sc_Lmany_right.nd rfl (Or.inr rfl)) (pgs_cons (pg_name (i := 6) sc_Lmany_right.nd rfl (Or.inl rfl)) pgs_nil))))
      (pss_cons (ps_for PassesOwn.never rfl (pi_range1 (by rfl) Z.m_range (pa_cons pe_int pa_nil)) (pg_name (i := 7) sc_Lmany_right.nd rfl (Or.inl rfl)) (pss_cons (ps_set (i := 5) sc_Lmany_right.nd rfl (Or.inr rfl) (pe_op (k_op_catA W.K) (pv 5) (pe_tup (pa_cons (pe_ix (k_ix_tup W.K) (pv 3) (pv 7) (fun _ _ => rfl)) (pa_cons (pe_ix (k_ix_tup W.K) (pv 4) (pv 7) (fun _ _ => rfl)) pa_nil)))))
      (pss_one (ps_set (i := 6) sc_Lmany_right.nd rfl (Or.inl rfl) (pe_op op_fdivW (pe_op op_mulW (pe_op op_mulW (pv 6) (pe_op op_add (pe_op op_mulW pe_int (pv 7)) pe_int)) (pe_op op_add (pe_op op_mulW pe_int (pv 7)) pe_int)) pe_int)))))
      (pss_cons (ps_set (i := 8) sc_Lmany_right.nd rfl (Or.inl rfl) (pe_op (k_op_catA W.K) (pe_slice (k_sl_tupA W.K) (pv 5) po_none (po_some pe_int)) (pe_tup (pa_cons pe_int (pa_cons pe_int pa_nil)))))
      (pss_cons (ps_if (PW.pt (pw_or (pt_cmpR op_ne (pe_cal (ok_how_many_one Z) (hr.mono (by decide)) (pa_cons (pv 1) (pa_cons (pv 2) (pa_cons (pv 5) pa_nil)))) (pv 6) (nomark _)) (pw_or1 (pt_cmpR op_ne (pe_cal (ok_far_apart Z) (hr.mono (by decide)) (pa_cons (pv 1) (pa_cons (pv 2) (pa_cons (pv 5) (pa_cons (pe_op (k_op_catA W.K) (pv 3) (pv 4)) pa_nil))))) pe_int (nomark _))))) (pss_one (ps_ret pe_bl)) pss_nil)
      (pss_cons (ps_setLc (i := 9) (own := [("_law_places", 10)]) (g := gName 10) rfl sc_Lmany_right.nd rfl rfl (sw_true rfl rfl rfl (by decide +kernel)) (k_tup W.K (pe_tup (pa_cons (pe_op (k_op_catA W.K) (pv 3) (pv 4)) (pa_cons (pv 8) pa_nil)))) (blkOk_by (own := [("_law_places", 10)]) (N := ["_law_some", "_law_text", "_law_rules", "_law_first", "_law_second", "_law_mine", "_law_found", "_law_k", "_law_odd", "_law_told", "_law_places"]) (sc := defScope s_Lmany_right) (by decide +kernel)) (fun _ _ _ _ _ => pg_name (i := 10) sc_Lmany_right.nd rfl (Or.inl rfl)) (fun _ _ _ _ _ => pts_nil) (fun _ _ _ _ _ => (pe_cal (ok_are_one Z) (hr.mono (by decide)) (pa_cons (pv 1) (pa_cons (pv 2) (pa_cons (pv 5) (pa_cons (pv 10) pa_nil)))))))
      (pss_one (ps_ret (pe_and (pe_cmpR (k_op_eqD W.K hr.units) (pv 9) (pe_lst (pa_cons pe_bl (pa_cons pe_bl pa_nil))) (nomark _)) (pe_one (pe_cmpR op_isN (pe_cal (ok_far_apart Z) (hr.mono (by decide)) (pa_cons (pv 1) (pa_cons (pv 2) (pa_cons (pv 5) (pa_cons (pv 8) pa_nil))))) pe_non (nomark _)))))))))))), ?_⟩
  have h0 : atI (sgs [a, b]) 0 = some (.str (sg a)) := atI_nat (xs := sgs [a, b]) (j := 0) (v := .str (sg a)) rfl
  have h1 : atI (sgs [a, b]) 1 = some (.str (sg b)) := atI_nat (xs := sgs [a, b]) (j := 1) (v := .str (sg b)) rfl
  refine ⟨_, rfl, l, _, _, _, rfl, rfl, SqL.of hl, h0, sg a, 2, rfl, rfl, by decide, by decide, by show 0 < 1; decide, by show 1 ≤ 1000; decide, ?_⟩
  have hs2 : (strRep (sg a) (2 : Int).toNat).length = 2 := by
    show (strRep (sg a) 2).cps.size = 2
    rw [← Array.length_toList, strRep_list]
    rfl
  have hs3 : (strRep (sg a) (2 : Int).toNat ++ sg b).length = 3 := by
    show ((strRep (sg a) 2).cps ++ (sg b).cps).size = 3
    rw [Array.size_append]
    show (strRep (sg a) (2 : Int).toNat).length + 1 = 3
    rw [hs2]
  refine ⟨_, rfl, l, _, _, _, rfl, rfl, SqL.of hl, h1, _, _, rfl, rfl, by rw [hs2]; show 2 + 1 ≤ sizeLine; decide, _, 20, rfl, rfl, by decide, by decide, by rw [hs3]; decide, by rw [hs3]; decide, ?_⟩
  refine ⟨_, rfl, l, _, _, _, rfl, rfl, SqL.of hl, h0, by show 4 ≤ sizeLine; decide, fun t1 ht1 => ⟨by show 1 ≤ sizeLine; decide, fun t2 ht2 => ⟨by show 2 ≤ sizeLine; decide, fun t3 ht3 => ⟨t3, _, rfl, SqT.of upd_same, rfl, _, _, rfl, _, _, rfl, rfl, ?_⟩⟩⟩⟩
  have g1 : Same H (upd (upd (upd H t1 (.tup [.str "*", .str (sg a), .str "*", .int 1])) t2 (.tup [.ref t1])) t3 (.tup [.str (strRep (strRep (sg a) (2 : Int).toNat ++ sg b) (20 : Int).toNat), .ref t2])) := ((same_new ht1 _).trans (same_new ht2 _)).trans (same_new ht3 _)
  have hbk : BookAt W.K (upd (upd (upd H t1 (.tup [.str "*", .str (sg a), .str "*", .int 1])) t2 (.tup [.ref t1])) t3 (.tup [.str (strRep (strRep (sg a) (2 : Int).toNat ++ sg b) (20 : Int).toNat), .ref t2])) t2 [.ref t1] (rulesC a) := by
    have q1 := same_new ht2 (.tup [.ref t1]) _ _ (show upd H t1 (.tup [.str "*", .str (sg a), .str "*", .int 1]) t1 = _ from upd_same)
    have q2 := same_new ht3 (.tup [.str (strRep (strRep (sg a) (2 : Int).toNat ++ sg b) (20 : Int).toNat), .ref t2]) _ _ q1
    have q3 := same_new ht3 (.tup [.str (strRep (strRep (sg a) (2 : Int).toNat ++ sg b) (20 : Int).toNat), .ref t2]) _ _ (show upd (upd H t1 (.tup [.str "*", .str (sg a), .str "*", .int 1])) t2 (.tup [.ref t1]) t2 = _ from upd_same)
    exact ⟨SqT.of q3, .cons ⟨t1, rfl, SqT.of (by rw [q2, st_sg]; rfl)⟩ .nil⟩
  generalize upd (upd (upd H t1 (.tup [.str "*", .str (sg a), .str "*", .int 1])) t2 (.tup [.ref t1])) t3 (.tup [.str (strRep (strRep (sg a) (2 : Int).toNat ++ sg b) (20 : Int).toNat), .ref t2]) = H1 at g1 hbk
  refine ⟨0, 60, 3, 20, rfl, ⟨by decide, by decide, by decide +kernel, by decide +kernel⟩, by decide, fun pf hpf => ⟨1, 60, 3, 20, rfl, ⟨by decide, by decide, by decide +kernel, by decide +kernel⟩, by decide, fun ps hps => ⟨_, _, rfl, ?_⟩⟩⟩
  have g2 := same_new hpf (.tup ((rg3 0 3 20).map V.int))
  have g3 := g2.trans (same_new hps (.tup ((rg3 1 3 20).map V.int)))
  have hf : SqT W.K _ pf ((rg3 0 3 20).map V.int) := SqT.of (same_new hps (.tup ((rg3 1 3 20).map V.int)) _ _ (show upd H1 pf (.tup ((rg3 0 3 20).map V.int)) pf = _ from upd_same))
  have hs : SqT W.K (upd (upd H1 pf (.tup ((rg3 0 3 20).map V.int))) ps (.tup ((rg3 1 3 20).map V.int))) ps ((rg3 1 3 20).map V.int) := SqT.of upd_same
  have hbk := hbk.mono g3.imS
  generalize upd (upd H1 pf (.tup ((rg3 0 3 20).map V.int))) ps (.tup ((rg3 1 3 20).map V.int)) = H2 at g3 hf hs hbk
  refine ⟨by show 0 ≤ sizeLine; decide, fun pm hpm => ⟨by show 2 ≤ sizeLine; decide, fun t4 ht4 => ⟨t4, _, rfl, SqT.of upd_same, rfl, _, _, rfl, _, _, rfl, rfl, ?_⟩⟩⟩
  have hm : SqT W.K _ pm ((mineC 0).map V.int) := SqT.of (same_new ht4 (.tup [.ref pm, .int 1]) _ _ (show upd H2 pm (.tup []) pm = _ from upd_same))
  have g4 := (same_new hpm (.tup [])).trans (same_new ht4 (.tup [.ref pm, .int 1]))
  have hbk := hbk.mono g4.imS
  have hf := g4.tS hf
  have hs := g4.tS hs
  generalize upd (upd H2 pm (.tup [])) t4 (.tup [.ref pm, .int 1]) = H3 at g4 hf hs hbk hm
  refine ⟨_, rfl, by omega, by omega, ?_⟩
  refine for_range (fun i σ H' => ∃ (po : Addr) (w : Option V), σ = [some (.ref l), some (.str (wordC a b)), some (.ref t2), some (.ref pf), some (.ref ps), some (.ref po), some (.int ((foundC i : Nat) : Int)), w, none, none, none] ∧ Same H3 H' ∧ SqT W.K H' po ((mineC i).map V.int))
    ⟨pm, _, rfl, Same.refl _, hm⟩ (fun i σ H' hi q => ?_) (fun σ H' q => ?_)
  · obtain ⟨po, w, rfl, g, hpo⟩ := q
    have hi' : i < 20 := by omega
    have ef : atI ((rg3 0 3 20).map V.int) (0 + (i : Nat)) = some (.int (0 + (i : Int) * 3)) := by
      rw [show (0 : Int) + (i : Nat) = (i : Int) from Int.zero_add _]
      exact atI_nat (xs := (rg3 0 3 20).map V.int) (j := i) (v := .int (0 + (i : Int) * 3)) (by unfold rg3; rw [List.getElem?_map, List.getElem?_map, List.getElem?_range hi']; rfl)
    have es : atI ((rg3 1 3 20).map V.int) (0 + (i : Nat)) = some (.int (1 + (i : Int) * 3)) := by
      rw [show (0 : Int) + (i : Nat) = (i : Int) from Int.zero_add _]
      exact atI_nat (xs := (rg3 1 3 20).map V.int) (j := i) (v := .int (1 + (i : Int) * 3)) (by unfold rg3; rw [List.getElem?_map, List.getElem?_map, List.getElem?_range hi']; rfl)
    refine ⟨_, rfl, _, rfl, _, rfl, pf, _, _, _, rfl, rfl, g.tS hf, ef, _, rfl, _, rfl, ps, _, _, _, rfl, rfl, g.tS hs, es, by show 2 ≤ sizeLine; decide, fun t5 ht5 => ?_⟩
    have n5 := same_new ht5 (.tup [.int (0 + (i : Int) * 3), .int (1 + (i : Int) * 3)])
    refine catA_end (n5.tS hpo) (SqT.of upd_same) (by rw [List.length_map, mineC_len]; show 2 * i + 2 ≤ 1000; omega) fun q H5 g5 hq => ?_
    have b0 : (2 : Int).natAbs < 2 ^ 10 := by decide
    have b1 : ((0 : Int) + (i : Nat)).natAbs < 2 ^ 10 := by show _ < 1024; omega
    have b2 : (2 * ((0 : Int) + (i : Nat)) + 1).natAbs < 2 ^ 10 := by show _ < 1024; omega
    have b3 : (2 * ((0 : Int) + (i : Nat)) + 2).natAbs < 2 ^ 10 := by show _ < 1024; omega
    have b4 : (((foundC i : Nat) : Int)).natAbs < 2 ^ 200 := by rw [Int.natAbs_natCast]; exact foundC_lt i (by omega)
    refine ⟨_, rfl, _, rfl, _, _, rfl, rfl, wide_mul (a := 10) (b := 10) b0 b1 (by decide) (by decide) (by decide), _, _, rfl, rfl, _, _, rfl, rfl, wide_mul (a := 200) (b := 10) b4 b2 (by decide) (by decide) (by decide), _, rfl, _, _, rfl, rfl, wide_mul (a := 10) (b := 10) b0 b1 (by decide) (by decide) (by decide), _, _, rfl, rfl, _, _, rfl, rfl, wide_mul (a := 210) (b := 10) (wide_lt b4 b2) b3 (by decide) (by decide) (by decide), _, _, rfl, rfl, wide_div (j := 2) (b := 10) (by decide) (by decide) (by decide) (by decide), q, some (.int (0 + (i : Nat))), ?_, (g.trans n5).trans g5, ?_⟩
    · rw [foundC_int]
      rfl
    · rw [show (mineC (i + 1)).map V.int = (mineC i).map V.int ++ [.int (0 + (i : Int) * 3), .int (1 + (i : Int) * 3)] by rw [mineC_succ, List.map_append]; rfl]
      exact hq
  · obtain ⟨po, w, rfl, g, hpo⟩ : ∃ (po : Addr) (w : Option V), σ = [some (.ref l), some (.str (wordC a b)), some (.ref t2), some (.ref pf), some (.ref ps), some (.ref po), some (.int ((foundC 20 : Nat) : Int)), w, none, none, none] ∧ Same H3 H' ∧ SqT W.K H' po ((mineC 20).map V.int) := q
    have hf := g.tS hf
    have hs := g.tS hs
    have hbk := hbk.mono g.imS
    have hz := wordC_good ha hb
    have hg : GoodB (rulesC a) := ⟨by show 1 ≤ 80; decide, fun r hr => by
      have : r = ⟨42, a, 42, 1⟩ := by simpa [rulesC] using hr
      subst this
      exact ⟨.inr (.inr rfl), ha, .inr (.inr rfl), by show (0 : Int) ≤ 1; decide, by show (1 : Int) ≤ 999; decide⟩⟩
    have hsz : ((wordC a b).cps.size : Int) = 60 := by rw [wordC_size]; rfl
    have hO1 := ordC hab mine_rg mine_nd mine_run (by rw [mineC_len]; decide)
    have hO2 := ordC hab row_rg row_nd row_run (by decide +kernel)
    have hO3 := ordC hab odd_rg odd_nd odd_run (by decide +kernel)
    refine ⟨_, rfl, 38, rfl, slA_end hpo fun q5 H6 g6 hq5 => ⟨by show 2 ≤ sizeLine; decide, fun t6 ht6 => catA_end ((same_new ht6 (.tup [.int 58, .int 57])).tS hq5) (SqT.of upd_same) ?_ fun po2 H7 g7 hodd => ?_⟩⟩
    · have := cutV_length ((mineC 20).map V.int) none (some 38)
      rw [List.length_map, mineC_len] at this
      show _ + 2 ≤ 1000
      omega
    have g67 := (g6.trans (same_new ht6 (.tup [.int 58, .int 57]))).trans g7
    have hodd : SqT W.K H7 po2 (oddC.map V.int) := by
      rw [show oddC.map V.int = cutV ((mineC 20).map V.int) none (some 38) ++ [.int 58, .int 57] by
        rw [show (some (38 : Int)) = some ((38 : Nat) : Int) from rfl, cut_to _ 38 (by rw [List.length_map, mineC_len]; decide)]
        unfold oddC
        rw [List.map_append, List.map_take]
        rfl]
      exact hodd
    have hpo := g67.tS hpo
    have hf := g67.tS hf
    have hs := g67.tS hs
    have hbk := hbk.mono g67.imS
    refine ⟨_, rfl, _, rfl, _, rfl, wordC a b, t2, po, [.ref t1], rulesC a, mineC 20, _, 40, rfl, hz, hg, hbk, hpo, hO1, fun H8 g8 => ?_⟩
    rw [hsz, mineC_len, mine_count]
    refine ⟨_, rfl, rfl, _, rfl, ?_⟩
    rw [decide_eq_true rfl]
    have rowE : (rg3 0 3 20).map V.int ++ (rg3 1 3 20).map V.int = rowC.map V.int := by rw [← List.map_append]; rfl
    refine ⟨_, rfl, _, rfl, _, rfl, _, rfl, _, rfl, catA_end (g8.tS hf) (g8.tS hs) (by rw [List.length_map, List.length_map]; decide) fun pr1 H9 g9 hrow => ?_⟩
    rw [rowE] at hrow
    have g89 := g8.trans g9
    refine ⟨wordC a b, t2, po, pr1, [.ref t1], rulesC a, mineC 20, rowC, _, 40, 40, rfl, hz, hg, hbk.mono g89.imS, g89.tS hpo, hrow, hO1, hO2, mine_row, fun H10 g10 => ?_⟩
    rw [hsz, if_pos row_forest, row_pairs, show ((190 : Nat) : Int) = 190 from rfl]
    refine ⟨rfl, _, rfl, ?_⟩
    rw [decide_eq_true rfl]
    refine iteF ?_
    have ga := g89.trans g10
    refine ⟨_, rfl, _, rfl, catA_end (ga.tS hf) (ga.tS hs) (by rw [List.length_map, List.length_map]; decide) fun pr2 H11 g11 hrow2 => ?_⟩
    rw [rowE] at hrow2
    have gb := ga.trans g11
    refine ⟨_, rfl, by show 2 ≤ sizeLine; decide, fun T hT => ⟨T, rfl, ⟨_, SqT.of upd_same⟩, fun D hD => ?_⟩⟩
    have nT := same_new hT (.tup [.ref pr2, .ref po2])
    have hpo := (gb.trans nT).tS hpo
    have hodd := (gb.trans nT).tS hodd
    have hbk := hbk.mono (gb.trans nT).imS
    have hrow2 := nT.tS hrow2
    have hp2 : upd H11 T (.tup [.ref pr2, .ref po2]) T = _ := upd_same
    generalize upd H11 T (.tup [.ref pr2, .ref po2]) = H12 at nT hpo hodd hbk hrow2 hp2 hD
    have key : ∀ e ∈ [(pr2, rowC, true), (po2, oddC, false)], SqT W.K H12 e.1 (e.2.1.map V.int) ∧ Ord (wordC a b) (rulesC a) e.2.1 (compl 60 (mineC 20)) 40 ∧ decide (forest ((wordC a b).cps.size : Int) (mineC 20) (compl 60 (mineC 20)) = forest ((wordC a b).cps.size : Int) e.2.1 (compl 60 (mineC 20))) = e.2.2 := fun e he => by
      rw [hsz]
      rcases List.mem_cons.mp he with rfl | he
      · exact ⟨hrow2, hO2, decide_eq_true row_forest⟩
      · obtain rfl : e = (po2, oddC, false) := by simpa using he
        exact ⟨hodd, hO3, decide_eq_false odd_forest⟩
    refine lcF_tup (xs := [.ref pr2, .ref po2]) [(pr2, rowC, true), (po2, oddC, false)] (fun _ => true) (fun e => V.bl e.2.2) hD (SqT.of hp2) rfl (by show 2 ≤ 100000; decide) (fun j v e hv he H13 R N' g13 hR hN' => ?_) (fun H13 g13 hD13 => ?_)
    · have ev : v = .ref e.1 := by
        match j, hv, he with
        | 0, hv, he => cases hv; cases he; rfl
        | 1, hv, he => cases hv; cases he; rfl
      subst ev
      obtain ⟨k1, k2, k3⟩ := key e (List.mem_of_getElem? he)
      refine ⟨rfl, _, rfl, _, rfl, _, rfl, _, rfl, wordC a b, t2, po, e.1, [.ref t1], rulesC a, mineC 20, e.2.1, _, 40, 40, rfl, hz, hg, hbk.mono g13.imS, g13.tS hpo, g13.tS k1, hO1, k2, fun H14 g14 => ?_⟩
      rw [k3]
      exact hR rfl H14 g14
    have hD13 : H13 D = some (.lst [.bl true, .bl false]) := hD13
    refine ⟨_, rfl, by show 2 ≤ sizeLine; decide, fun l5 hl5 => ?_⟩
    have n5 := same_new hl5 (.lst [.bl true, .bl false])
    refine ⟨.list [.bool true, .bool false], .list [.bool true, .bool false], .lst (SqL.of (n5 _ _ hD13)) (.cons (.bl _) (.cons (.bl _) .nil)), .lst (SqL.of upd_same) (.cons (.bl _) (.cons (.bl _) .nil)), by decide +kernel, by decide +kernel, _, rfl, ?_⟩
    rw [show PyData.eqv (.list [.bool true, .bool false]) (.list [.bool true, .bool false]) = true by decide +kernel]
    have gc := g13.trans n5
    refine iteT ⟨_, rfl, _, rfl, _, rfl, _, rfl, wordC a b, t2, po, po2, [.ref t1], rulesC a, mineC 20, oddC, _, 40, 40, rfl, hz, hg, hbk.mono gc.imS, gc.tS hpo, gc.tS hodd, hO1, hO3, mine_odd, fun H14 g14 => ?_⟩
    rw [hsz, if_neg odd_forest]
    refine ⟨rfl, ?_⟩
    rw [decide_eq_true rfl]
    exact k H14
end
/-! ### the law -/
theorem paired_app {α β : Type} {F : α → β → Prop} : ∀ {a c : List α} {b d : List β}, Paired F a b → Paired F c d → Paired F (a ++ c) (b ++ d)
  | _, _, _, _, .nil, h => h
  | _, _, _, _, .cons x r, h => .cons x (paired_app r h)
def spLaw (K : PySem.W.Frag) : Sp := fun vs H Q _ => ∃ (p : Addr) (ns : List Int), vs = [.ref p] ∧ SqL K H p (ns.map V.int) ∧ ns.length ≤ 63 ∧ ∀ H', Q (.bl true) H'
section
variable {W : Wd} (Z : Hd W)
include Z
theorem ok_lawD : CalD W 140 d_law "law" ["_law_script"] (spLaw W.K) := by
  refine cal_mkD (d := d_law) Z.g_law Z.d_law sc_law (fun vs H Q E h => ?_) fun f cdv A outer s H vs Q E hr h => ?_
  · obtain ⟨_, _, rfl, _⟩ := h; rfl
  obtain ⟨p, ns, rfl, hp, hn, k⟩ := h
  refine ⟨_, pss_cons (ps_for PassesOwn.never rfl (pi_range1 (by rfl) Z.m_range (pa_cons (pe_op op_add pe_int (pe_callB (call_min2 rfl) (by rfl) Z.m_min (by decide +kernel) (pa_cons pe_int (pa_cons (pe_callB (k_len_seq W.K) (by rfl) Z.m_len (by decide +kernel) (pa_cons (pv 0) pa_nil)) pa_nil)))) pa_nil)) (pg_name (i := 1) sc_law.nd rfl (Or.inl rfl)) (pss_cons (ps_set (i := 2) sc_law.nd rfl (Or.inl rfl) (pe_cal (ok__law_begun Z) (hr.mono (by decide)) (pa_cons (pv 0) (pa_cons (pv 1) pa_nil))))
      (pss_cons (ps_par (i := 3) (j := 4) (by rfl) sc_law.nd rfl rfl (by decide) rfl rfl (pa_cons (pe_cal (ok__law_letters Z) (hr.mono (by decide)) (pa_cons (pv 2) (pa_cons (pe_op op_add pe_int (pe_cal (ok__law_take Z) (hr.mono (by decide)) (pa_cons (pv 2) (pa_cons pe_int pa_nil)))) pa_nil))) (pa_cons (pe_op op_add pe_int (pe_cal (ok__law_take Z) (hr.mono (by decide)) (pa_cons (pv 2) (pa_cons pe_int pa_nil)))) pa_nil)) (by rfl))
      (pss_cons (ps_set (i := 5) sc_law.nd rfl (Or.inl rfl) (pe_cal (ok__law_word Z) (hr.mono (by decide)) (pa_cons (pv 2) (pa_cons (pv 3) (pa_cons (pv 4) pa_nil)))))
      (pss_cons (ps_set (i := 6) sc_law.nd rfl (Or.inl rfl) (pe_op (k_op_catA W.K) (pe_op (k_op_catA W.K) (pe_cal (ok__law_book Z) (hr.mono (by decide)) (pa_cons (pv 2) (pa_cons (pv 3) pa_nil))) (pe_cal (ok__law_book Z) (hr.mono (by decide)) (pa_cons (pv 2) (pa_cons (pv 3) pa_nil)))) (pe_tup (pa_cons (pe_tup (pa_cons pe_str (pa_cons (pe_ix (k_ix_list W.K) (pv 3) (pe_un un_neg pe_int) (fun _ _ => rfl)) (pa_cons pe_str (pa_cons pe_int pa_nil))))) pa_nil))))
      (pss_one (ps_for PassesOwn.never rfl (k_tup W.K (pe_tup (pa_cons (pe_cal (ok__law_take Z) (hr.mono (by decide)) (pa_cons (pv 2) (pa_cons pe_int pa_nil))) (pa_cons (pe_cal (ok__law_take Z) (hr.mono (by decide)) (pa_cons (pv 2) (pa_cons (pe_op op_add (pv 4) pe_int) pa_nil))) pa_nil)))) (pg_name (i := 7) sc_law.nd rfl (Or.inl rfl)) (pss_one (ps_if (pt_not (pt_val (pe_cal (ok__law_right Z) (hr.mono (by decide)) (pa_cons (pv 2) (pa_cons (pv 5) (pa_cons (pv 6) (pa_cons (pe_cal (ok__law_struck Z) (hr.mono (by decide)) (pa_cons (pv 2) (pa_cons (pv 5) (pa_cons (pv 6) (pa_cons (pv 7) pa_nil))))) pa_nil))))))) (pss_one (ps_ret pe_bl)) pss_nil)))))))))
      (pss_one (ps_ret (pe_cal (ok__law_many_right Z) (hr.mono (by decide)) (pa_cons (pe_cal (ok__law_letters Z) (hr.mono (by decide)) (pa_cons (pe_cal (ok__law_begun Z) (hr.mono (by decide)) (pa_cons (pv 0) (pa_cons pe_int pa_nil))) (pa_cons pe_int pa_nil))) pa_nil)))), ?_⟩
  have hmin : (0 : Int) ≤ 1 + (if (((ns.map V.int).length : Nat) : Int) < 4 then (((ns.map V.int).length : Nat) : Int) else 4) ∧ 1 + (if (((ns.map V.int).length : Nat) : Int) < 4 then (((ns.map V.int).length : Nat) : Int) else 4) ≤ 5 := by
    split <;> omega
  refine ⟨_, rfl, p, _, rfl, .inl hp, 4, _, rfl, _, _, rfl, rfl, _, rfl, by omega, by omega, ?_⟩
  generalize 1 + (if (((ns.map V.int).length : Nat) : Int) < 4 then (((ns.map V.int).length : Nat) : Int) else 4) = tn at hmin
  refine for_range (fun i σ H' => ∃ w1 w2 w3 w4 w5 w6 w7, σ = [some (.ref p), w1, w2, w3, w4, w5, w6, w7] ∧ Same H H')
    ⟨_, _, _, _, _, _, _, rfl, Same.refl _⟩ (fun i σ H' hi q => ?_) (fun σ H' q => ?_)
  · obtain ⟨w1, w2, w3, w4, w5, w6, w7, rfl, g⟩ := q
    have hi' : i < 5 := by omega
    refine ⟨_, rfl, _, rfl, p, ns, _, rfl, g.seq hp, hn, by omega, by omega, fun d H1 g1 hd0 d1 => ?_⟩
    refine ⟨_, rfl, _, rfl, d, 3, 600, rfl, d1, by omega, by decide, by decide +kernel, fun r1 H2 b2 d2 p1 p2 => ⟨_, _, rfl, rfl, d, (1 + r1).toNat, 601, by rw [show (((1 + r1).toNat : Nat) : Int) = 1 + r1 by omega]; rfl, d2, by omega, by omega, fun cs l H3 b3 d3 hl3 hlf hcl hlet hne => ?_⟩⟩
    have hc0 : cs ≠ [] := fun e => by rw [e] at hcl; simp at hcl; omega
    have hcn : cs.length ≤ 26 := by omega
    have hld : l ≠ d := fun e => by obtain ⟨kv, hk⟩ := d3.get; rw [← e, hl3] at hk; cases hk
    refine ⟨_, rfl, d, 13, 603, rfl, d3, by omega, by decide, by decide +kernel, fun r2 H4 b4 d4 p3 p4 => ⟨_, _, rfl, rfl, _, _, rfl, ?_⟩⟩
    have hl4 := b4 _ _ (by simpa using hld) hl3
    refine ⟨_, rfl, _, rfl, _, rfl, d, l, cs, (3 + r2).toNat, 604, by rw [show (((3 + r2).toNat : Nat) : Int) = 3 + r2 by omega]; rfl, d4, by omega, by omega, hl4, hc0, hcn, hlet, fun z H5 b5 d5 hz hzs => ?_⟩
    have hl5 := b5 _ _ (by simpa using hld) hl4
    have d5 := d5.up (show 604 + (3 + r2).toNat ≤ 620 by omega)
    refine ⟨_, rfl, _, rfl, d, l, cs, 620, rfl, d5, by omega, hl5, hc0, hcn, hlet, fun p1 xs1 rs1 H6 b6 d6 hb1 hg1 hl1 => ?_⟩
    have hl6 := b6 _ _ (by simpa using hld) hl5
    refine ⟨_, rfl, _, rfl, d, l, cs, 661, rfl, d6, by omega, hl6, hc0, hcn, hlet, fun p2 xs2 rs2 H7 b7 d7 hb2 hg2 hl2 => ?_⟩
    have hl7 := b7 _ _ (by simpa using hld) hl6
    have hb1 := hb1.mono (dIm b7 d6)
    have n1 : xs1.length = rs1.length := Paired.length hb1.rs
    have n2 : xs2.length = rs2.length := Paired.length hb2.rs
    refine catA_end hb1.sq hb2.sq (by omega) fun p3 H8 g8 hp3 => ?_
    have hl8 := g8 _ _ hl7
    obtain ⟨cr, cl, hcc⟩ : ∃ cr cl, cs = cr ++ [cl] := by
      rcases List.eq_nil_or_concat cs with e | ⟨cr, cl, e⟩
      · exact absurd e hc0
      · exact ⟨cr, cl, by rw [e, List.concat_eq_append]⟩
    have hcll : isLet cl := hlet cl (by rw [hcc]; simp)
    have hlast : atI (sgs cs) (-1) = some (.str (sg cl)) := by
      rw [hcc]
      unfold sgs
      rw [List.map_append]
      exact atI_last _ _
    refine ⟨_, rfl, _, rfl, l, _, _, _, rfl, rfl, SqL.of hl8, hlast, by show 4 ≤ sizeLine; decide, fun t1 ht1 => ⟨by show 1 ≤ sizeLine; decide, fun t2 ht2 => ?_⟩⟩
    have m1 := same_new ht1 (.tup [.str "*", .str (sg cl), .str "*", .int 5])
    have m2 := m1.trans (same_new ht2 (.tup [.ref t1]))
    have q1 := same_new ht2 (.tup [.ref t1]) _ _ (show upd H8 t1 (.tup [.str "*", .str (sg cl), .str "*", .int 5]) t1 = _ from upd_same)
    refine catA_end (m2.tS hp3) (SqT.of upd_same) (by rw [List.length_append]; show xs1.length + xs2.length + 1 ≤ 1000; omega) fun p4 H9 g9 hp4 => ?_
    have g29 := g8.trans (m2.trans g9)
    have hb4 : BookAt W.K H9 p4 (xs1 ++ xs2 ++ [.ref t1]) (rs1 ++ rs2 ++ [⟨42, cl, 42, 5⟩]) :=
      ⟨hp4, paired_app (paired_app (hb1.mono g29.imS).rs (hb2.mono g29.imS).rs) (.cons ⟨t1, rfl, g9.tS (SqT.of (by rw [q1, st_sg]; rfl))⟩ .nil)⟩
    have hgb : GoodB (rs1 ++ rs2 ++ [⟨42, cl, 42, 5⟩]) := by
      refine ⟨by rw [List.length_append, List.length_append]; show rs1.length + rs2.length + 1 ≤ 80; omega, fun r hr => ?_⟩
      rcases List.mem_append.mp hr with m | m
      · rcases List.mem_append.mp m with m | m
        · exact hg1 r m
        · exact hg2 r m
      · obtain rfl : r = ⟨42, cl, 42, 5⟩ := by simpa using m
        exact ⟨.inr (.inr rfl), hcll, .inr (.inr rfl), by show (0 : Int) ≤ 5; decide, by show (5 : Int) ≤ 999; decide⟩
    generalize xs1 ++ xs2 ++ [.ref t1] = xs at hb4
    generalize rs1 ++ rs2 ++ [⟨42, cl, 42, 5⟩] = rs at hb4 hgb
    have d9 : DrawAt H9 d 702 := (d7.same g29)
    have b9 : But [d] H1 H9 := (((((b2.tr b3).tr b4).tr b5).tr b6).tr b7).seq g29
    refine ⟨_, rfl, d, 7, 702, rfl, d9, by omega, by decide, by decide +kernel, fun r3 H10 b10 d10 e3 e4 => ?_⟩
    refine ⟨_, rfl, _, rfl, _, _, rfl, rfl, d, 3 + r2 + 1, 703, rfl, d10, by omega, by omega, Nat.lt_of_lt_of_le (show (3 + r2 + 1).natAbs < 2 ^ 10 by show _ < 1024; omega) (Nat.pow_le_pow_right (by decide) (by decide)), fun r4 H11 b11 d11 e5 e6 => ?_⟩
    refine ⟨by show 2 ≤ sizeLine; decide, fun T hT => ⟨T, rfl, ⟨_, SqT.of upd_same⟩, ?_⟩⟩
    have nT := same_new hT (.tup [.int r3, .int r4])
    have bT : But [d] H9 (upd H11 T (.tup [.int r3, .int r4])) := (b10.tr b11).seq nT
    have dT := d11.same nT
    have hTT : upd H11 T (.tup [.int r3, .int r4]) T = _ := upd_same
    have hTd : T ≠ d := fun e => by obtain ⟨kv, hk⟩ := dT.get; rw [← e, hTT] at hk; cases hk
    generalize upd H11 T (.tup [.int r3, .int r4]) = H12 at nT bT dT hTT
    have bR : ∀ x ∈ [r3, r4], 0 ≤ x ∧ x ≤ 20 := fun x hx => by
      simp at hx
      rcases hx with rfl | rfl <;> omega
    refine for_tup (xs := [.int r3, .int r4]) (fun j σ H' => ∃ w, σ = [some (.ref p), some (.int (0 + (i : Nat))), some (.ref d), some (.ref l), some (.int (3 + r2)), some (.str z), some (.ref p4), w] ∧ But [d] H12 H' ∧ DrawAt H' d (704 + 520 * j))
      ⟨_, rfl, (Same.refl H12).but _, dT⟩ (fun j σ H' _ q => ?_) (fun j x σ H' hx q => ?_) (fun σ H' q => ?_)
    · obtain ⟨_, _, b, _⟩ := q
      exact SqT.of (b _ _ (by simpa using hTd) hTT)
    · obtain ⟨w, rfl, b, dd⟩ := q
      obtain ⟨r, hr, rfl⟩ := mapI (ns := [r3, r4]) hx
      have hrr := bR r (List.mem_of_getElem? hr)
      have hj : j < 2 := (List.getElem?_eq_some_iff.mp hr).1
      have imB := dIm (K := W.K) (bT.tr b) d9
      refine ⟨_, rfl, _, rfl, _, rfl, _, rfl, _, rfl, _, rfl, _, rfl, d, p4, z, xs, rs, r.toNat, 704 + 520 * j, by rw [show ((r.toNat : Nat) : Int) = r by omega]; rfl, dd, by omega, hz, hb4.mono imB, fun o c q H13 b13 d13 hq ho hrg hrun => ?_⟩
      refine ⟨d, p4, q, z, xs, rs, o, c, 704 + 520 * j + 120, rfl, d13, by omega, hz, by omega, hgb, (hb4.mono imB).mono (dIm b13 dd), SqT.of hq, ho, hrg, hrun, fun H14 b14 d14 => ?_⟩
      exact ⟨_, rfl, iteF ⟨_, rfl, (b.tr b13).tr b14, d14.up (by omega)⟩⟩
    · obtain ⟨w, rfl, b, dd⟩ := q
      exact ⟨_, _, _, _, _, _, _, rfl, g.trans (But.same (L := [d]) (fun a ha => by simp at ha; rw [ha]; exact hd0) g1 ((b9.tr bT).tr b))⟩
  · obtain ⟨w1, w2, w3, w4, w5, w6, w7, rfl, g⟩ := q
    refine ⟨_, rfl, p, ns, 5, rfl, g.seq hp, hn, by omega, by omega, fun d H1 g1 hd0 d1 => ?_⟩
    refine ⟨d, 2, 600, rfl, d1, by omega, by omega, fun cs l H2 b2 d2 hl hlf hcl hlet hne => ?_⟩
    match cs, hcl, hlet, hne, hl with
    | [a, b], _, hlet, hne, hl => exact ⟨l, a, b, rfl, hl, hlet a (by simp), hlet b (by simp), hne a b rfl, fun H' => k H'⟩
end
end Sl
/-! SlEnd -/
namespace Sl
open PySem PySem.Spec PyProof.Rows L2
theorem FunD.one {K : PySem.W.Frag} {x q x' q' : Str} {a a' : Arguments} {b b' : List Stmt} {s s' : Scope} {f : Addr} {fd fd' : FuncData} {dv dv' : List V} {kw kw' : List (Str × V)} (h : FunD K x q a b s dv kw f fd) (h' : FunD K x' q' a' b' s' dv' kw' f fd') : fd = fd' := by
  obtain ⟨_, _, _, _, _, _, _, _, _, _, _, l, _⟩ := h.ex
  obtain ⟨_, _, _, _, _, _, _, _, _, _, _, l', _⟩ := h'.ex
  rw [l] at l'
  injection l' with e
  injection e with _ _ e _
  injection e
theorem law_facts {P : Program} {w : World} {K : PySem.W.Frag} {h : Heap} {mg : Str → Option Value} {f : Addr} (X : K.In h) (G : h.Ns mainGlobals mg) (hfa : mg ("law" : Str) = some (.ref f)) (c : He.SaysD fa fn K) :
    ∃ fd : FuncData, (∀ (s : Shared) (v : Value), BindsTo s fd ⟨[v], []⟩ [("_law_script", v)]) ∧ ∀ base : Heap, K.In base → base.Ns mainGlobals mg → FnOk P w K mg base CX0 140 f fd ["_law_script"] (spLaw K) := by
  have Z : ∀ base : Heap, Hd ⟨P, w, K, mg, base⟩ := fun base => ⟨c, h, X, G⟩
  obtain ⟨f0, fd, m0, _, _, F⟩ := ok_lawD (Z h)
  have e0 : f0 = f := by
    have := m0.symm.trans hfa
    injection this with this
    injection this
  subst e0
  have b := FunD.bindsA (ps := ["_law_script"]) F fun _ _ _ _ _ _ us hl => match us, hl with | [_], _ => rfl
  refine ⟨fd, fun s v => b s [v] rfl, fun base _ _ => ?_⟩
  obtain ⟨f1, fd1, m1, _, F1, D1⟩ := ok_lawD (Z base)
  have e1 : f1 = f0 := by
    have := m1.symm.trans hfa
    injection this with this
    injection this
  subst e1
  have e2 : fd1 = fd := FunD.one D1 F
  subst e2
  exact F1
end Sl
open PySem PySem.W PySem.Calls PyProof.Rows
theorem PySem.Challenge.cw_strikeline_k38_whole_gaps_woven_holds : PySem.Challenge.rw_strikeline_k38_whole_gaps_woven.Holds := by
  w_on; o_law
  refine HandSHeadRun.head_any (r := OpenLaw.row PySem.Challenge.rw_strikeline_k38_whole_gaps_woven) (q := view (OpenLaw.row PySem.Challenge.rw_strikeline_k38_whole_gaps_woven).prog [89]) (H := Sl.hk) (ob := Sl.ob) (M := 9000) (loose := Sl.loose) (d := HandSHeadRun.topDef (OpenLaw.row PySem.Challenge.rw_strikeline_k38_whole_gaps_woven).prog 89) (kwd := []) Sl.ob_eq
    (by kernel_rfl) (fun s => by kernel_rfl) Sl.run (by kernel_rfl) (by kernel_rfl) (by kernel_rfl) (by rfl) (by first | assumption | decide +kernel) (by decide +kernel) ⟨rfl, rfl, rfl, rfl, rfl, by decide +kernel⟩ ?hw ?hc
  case hw => w_witness2
  case hc =>
    refine L2.walk_ofE (l := PySem.Challenge.rw_strikeline_k38_whole_gaps_woven) (n := 63) (k := 140) (x := "_law_script") (CX := L2.CX0) rfl (by decide) (by kernel_rfl) ⟨rfl, by decide, by decide⟩ ?F (fun _ _ _ _ z => z)
    intro w mg fa h Y G hmg0
    obtain ⟨K, KX, c⟩ := Y
    have hmg : mg ("law" : PySem.Str) = some (.ref fa) := by
      have e : (HandSHeadRun.topDef (OpenLaw.row PySem.Challenge.rw_strikeline_k38_whole_gaps_woven).prog 89).name = ("law" : PySem.Str) := by kernel_rfl
      rw [← e]
      exact hmg0
    obtain ⟨fd, hb, hF⟩ := Sl.law_facts (P := (PySem.Challenge.rw_strikeline_k38_whole_gaps_woven).prog) (w := w) KX G hmg c
    exact ⟨K, fd, Sl.spLaw K, KX, hb, fun H a ns hl _ hS => ⟨a, ns, rfl, hS, hl, fun _ => rfl⟩, hF⟩
