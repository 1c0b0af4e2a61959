import PyProof.Rows.All
import Wide.All
import OpenK.AllK
import Wide.FinOn
import KE.KStateDown
import Lean
import HandS.Base
import HandS.Call
import HandS.Ends
import HandS.More
import HandS.Words
import HandS.WordsExc
import HandS.Defaults
import HandS.Head0
import HandS.Head1
import HandS.Head2
import HandS.HeadEnd
import HandS.HeadHook1
import HandS.HeadHook2
import PySem.Challenge.RW_mendsure_k93_whole_sums
import HandS.List
import HandS.Comp
import HandS.Dict
import HandS.Iter
import HandS.Text
import HandS.WordsList
import HandS.IsInst
import HandS.Wide
import HandS.Deep
import HandS.Conv
import HandS.Flow
import HandS.Style
import HandS.TupAny
import HandS.StrMore
import HandS.Evl
import KE.SortData
import PyProof.Rows.SeqMore
import HandS.Replace
import KE.GoesEnum
import HandS.Sort
import HandS.WideBits
import KE.KDictKeyed
import KE.KDictWalk
set_option Elab.async false
set_option linter.all false
set_option maxRecDepth 100000
set_option maxHeartbeats 0
namespace Md
open PySem PySem.Spec PyProof.Rows L2
/-! ### where the defs stand -/
abbrev top (i : Nat) : Stmt := PySem.Challenge.pw_mendsure_k93_whole_sums.main.body.getD i (.Pass ⟨0, 0, 0, 0⟩)
abbrev s_is_plain : Stmt := top 11
abbrev s_check_plain : Stmt := top 12
abbrev s_key_of : Stmt := top 13
abbrev s_blocks : Stmt := top 14
abbrev s_side_value : Stmt := top 16
abbrev s_test_holds : Stmt := top 17
abbrev s_all_hold : Stmt := top 18
abbrev s_init_Never : Stmt := inClass (top 19) 0
abbrev s_init_Apart : Stmt := inClass (top 19) 0
abbrev s_init_Tie : Stmt := inClass (top 19) 0
abbrev s_bars_Apart : Stmt := inClass (top 19) 1
abbrev s_bars_Tie : Stmt := inClass (top 19) 1
abbrev s_parts_them_Never : Stmt := inClass (top 19) 2
abbrev s_parts_them_Tie : Stmt := inClass (top 19) 2
abbrev s_lacks_Never : Stmt := inClass (top 19) 3
abbrev s_lacks_Apart : Stmt := inClass (top 19) 3
abbrev s_bars_Never : Stmt := inClass (top 20) 0
abbrev s_one_way_Apart : Stmt := inClass (top 21) 0
abbrev s_parts_them_Apart : Stmt := inClass (top 21) 1
abbrev s_lacks_Tie : Stmt := inClass (top 22) 0
abbrev s_rule_of : Stmt := top 23
abbrev s_rules_of : Stmt := top 25
abbrev s_key_at : Stmt := top 26
abbrev s_alone_breaks : Stmt := top 27
abbrev s_pair_breaks : Stmt := top 28
abbrev s_breaks : Stmt := top 29
abbrev s_good : Stmt := top 30
abbrev s_held : Stmt := top 31
abbrev s_clashes : Stmt := top 32
abbrev s_rows_that_clash : Stmt := top 35
abbrev s_is_near : Stmt := top 36
abbrev s_is_greatest : Stmt := top 37
abbrev s_free_sets : Stmt := top 38
abbrev s_as_bits : Stmt := top 39
abbrev s_greatest_ones : Stmt := top 40
abbrev s_mended : Stmt := top 41
abbrev s_many_mended : Stmt := top 42
abbrev s_mended_at : Stmt := top 43
abbrev s_is_mended : Stmt := top 44
abbrev s_number_of : Stmt := top 46
abbrev s_worth : Stmt := top 47
abbrev s_check_column : Stmt := top 48
abbrev s_sum_in : Stmt := top 49
abbrev s_best_of : Stmt := top 50
abbrev s_sums_by_blocks : Stmt := top 51
abbrev s_sums_through : Stmt := top 52
abbrev s_sums : Stmt := top 53
abbrev s_is_name : Stmt := top 57
abbrev s_is_value : Stmt := top 58
abbrev s_is_whole : Stmt := top 64
abbrev s_is_table : Stmt := top 65
abbrev s_is_in : Stmt := top 66
abbrev s_is_column : Stmt := top 67
abbrev s_is_side : Stmt := top 68
abbrev s_are_tests : Stmt := top 69
abbrev s_are_columns : Stmt := top 70
abbrev s_is_tie : Stmt := top 71
abbrev s_is_rule : Stmt := top 72
abbrev s_is_row : Stmt := top 73
abbrev s_check_rows : Stmt := top 74
abbrev s_book_of : Stmt := top 75
abbrev s_law_cell_at : Stmt := top 77
abbrev s_law_mix : Stmt := top 78
abbrev s_law_name : Stmt := top 79
abbrev s_law_pool : Stmt := top 80
abbrev s_law_tables : Stmt := top 81
abbrev s_law_row : Stmt := top 82
abbrev s_law_rows : Stmt := top 83
abbrev s_law_take : Stmt := top 84
abbrev s_law_side : Stmt := top 85
abbrev s_law_tests : Stmt := top 86
abbrev s_law_rule : Stmt := top 87
abbrev s_law_idle : Stmt := top 88
abbrev s_law_whole : Stmt := top 89
abbrev s_law_turned : Stmt := top 90
abbrev s_law_total : Stmt := top 91
abbrev s_law_told_right : Stmt := top 92
abbrev s_law_column_right : Stmt := top 93
abbrev s_law : Stmt := top 94
def d_is_plain : He.DefD := ⟨("is_plain", none), "is_plain", "is_plain", defArgs s_is_plain, defBody s_is_plain, defScope s_is_plain, [], []⟩
def d_check_plain : He.DefD := ⟨("check_plain", none), "check_plain", "check_plain", defArgs s_check_plain, defBody s_check_plain, defScope s_check_plain, [], []⟩
def d_key_of : He.DefD := ⟨("key_of", none), "key_of", "key_of", defArgs s_key_of, defBody s_key_of, defScope s_key_of, [], []⟩
def d_blocks : He.DefD := ⟨("blocks", none), "blocks", "blocks", defArgs s_blocks, defBody s_blocks, defScope s_blocks, [], []⟩
def d_side_value : He.DefD := ⟨("side_value", none), "side_value", "side_value", defArgs s_side_value, defBody s_side_value, defScope s_side_value, [], []⟩
def d_test_holds : He.DefD := ⟨("test_holds", none), "test_holds", "test_holds", defArgs s_test_holds, defBody s_test_holds, defScope s_test_holds, [], []⟩
def d_all_hold : He.DefD := ⟨("all_hold", none), "all_hold", "all_hold", defArgs s_all_hold, defBody s_all_hold, defScope s_all_hold, [], []⟩
def d_init_Never : He.DefD := ⟨("Never", some "__init__"), "__init__", "Rule.__init__", defArgs s_init_Never, defBody s_init_Never, defScope s_init_Never, [], []⟩
def d_init_Apart : He.DefD := ⟨("Apart", some "__init__"), "__init__", "Rule.__init__", defArgs s_init_Apart, defBody s_init_Apart, defScope s_init_Apart, [], []⟩
def d_init_Tie : He.DefD := ⟨("Tie", some "__init__"), "__init__", "Rule.__init__", defArgs s_init_Tie, defBody s_init_Tie, defScope s_init_Tie, [], []⟩
def d_bars_Apart : He.DefD := ⟨("Apart", some "bars"), "bars", "Rule.bars", defArgs s_bars_Apart, defBody s_bars_Apart, defScope s_bars_Apart, [], []⟩
def d_bars_Tie : He.DefD := ⟨("Tie", some "bars"), "bars", "Rule.bars", defArgs s_bars_Tie, defBody s_bars_Tie, defScope s_bars_Tie, [], []⟩
def d_parts_them_Never : He.DefD := ⟨("Never", some "parts_them"), "parts_them", "Rule.parts_them", defArgs s_parts_them_Never, defBody s_parts_them_Never, defScope s_parts_them_Never, [], []⟩
def d_parts_them_Tie : He.DefD := ⟨("Tie", some "parts_them"), "parts_them", "Rule.parts_them", defArgs s_parts_them_Tie, defBody s_parts_them_Tie, defScope s_parts_them_Tie, [], []⟩
def d_lacks_Never : He.DefD := ⟨("Never", some "lacks"), "lacks", "Rule.lacks", defArgs s_lacks_Never, defBody s_lacks_Never, defScope s_lacks_Never, [], []⟩
def d_lacks_Apart : He.DefD := ⟨("Apart", some "lacks"), "lacks", "Rule.lacks", defArgs s_lacks_Apart, defBody s_lacks_Apart, defScope s_lacks_Apart, [], []⟩
def d_bars_Never : He.DefD := ⟨("Never", some "bars"), "bars", "Never.bars", defArgs s_bars_Never, defBody s_bars_Never, defScope s_bars_Never, [], []⟩
def d_one_way_Apart : He.DefD := ⟨("Apart", some "one_way"), "one_way", "Apart.one_way", defArgs s_one_way_Apart, defBody s_one_way_Apart, defScope s_one_way_Apart, [], []⟩
def d_parts_them_Apart : He.DefD := ⟨("Apart", some "parts_them"), "parts_them", "Apart.parts_them", defArgs s_parts_them_Apart, defBody s_parts_them_Apart, defScope s_parts_them_Apart, [], []⟩
def d_lacks_Tie : He.DefD := ⟨("Tie", some "lacks"), "lacks", "Tie.lacks", defArgs s_lacks_Tie, defBody s_lacks_Tie, defScope s_lacks_Tie, [], []⟩
def d_rule_of : He.DefD := ⟨("rule_of", none), "rule_of", "rule_of", defArgs s_rule_of, defBody s_rule_of, defScope s_rule_of, [], []⟩
def d_rules_of : He.DefD := ⟨("rules_of", none), "rules_of", "rules_of", defArgs s_rules_of, defBody s_rules_of, defScope s_rules_of, [], []⟩
def d_key_at : He.DefD := ⟨("key_at", none), "key_at", "key_at", defArgs s_key_at, defBody s_key_at, defScope s_key_at, [], []⟩
def d_alone_breaks : He.DefD := ⟨("alone_breaks", none), "alone_breaks", "alone_breaks", defArgs s_alone_breaks, defBody s_alone_breaks, defScope s_alone_breaks, [], []⟩
def d_pair_breaks : He.DefD := ⟨("pair_breaks", none), "pair_breaks", "pair_breaks", defArgs s_pair_breaks, defBody s_pair_breaks, defScope s_pair_breaks, [], []⟩
def d_breaks : He.DefD := ⟨("breaks", none), "breaks", "breaks", defArgs s_breaks, defBody s_breaks, defScope s_breaks, [], []⟩
def d_good : He.DefD := ⟨("good", none), "good", "good", defArgs s_good, defBody s_good, defScope s_good, [], []⟩
def d_held : He.DefD := ⟨("held", none), "held", "held", defArgs s_held, defBody s_held, defScope s_held, [], []⟩
def d_clashes : He.DefD := ⟨("clashes", none), "clashes", "clashes", defArgs s_clashes, defBody s_clashes, defScope s_clashes, [], []⟩
def d_rows_that_clash : He.DefD := ⟨("rows_that_clash", none), "rows_that_clash", "rows_that_clash", defArgs s_rows_that_clash, defBody s_rows_that_clash, defScope s_rows_that_clash, [], []⟩
def d_is_near : He.DefD := ⟨("is_near", none), "is_near", "is_near", defArgs s_is_near, defBody s_is_near, defScope s_is_near, [], []⟩
def d_is_greatest : He.DefD := ⟨("is_greatest", none), "is_greatest", "is_greatest", defArgs s_is_greatest, defBody s_is_greatest, defScope s_is_greatest, [], []⟩
def d_free_sets : He.DefD := ⟨("free_sets", none), "free_sets", "free_sets", defArgs s_free_sets, defBody s_free_sets, defScope s_free_sets, [], []⟩
def d_as_bits : He.DefD := ⟨("as_bits", none), "as_bits", "as_bits", defArgs s_as_bits, defBody s_as_bits, defScope s_as_bits, [], []⟩
def d_greatest_ones : He.DefD := ⟨("greatest_ones", none), "greatest_ones", "greatest_ones", defArgs s_greatest_ones, defBody s_greatest_ones, defScope s_greatest_ones, [], []⟩
def d_mended : He.DefD := ⟨("mended", none), "mended", "mended", defArgs s_mended, defBody s_mended, defScope s_mended, [], []⟩
def d_many_mended : He.DefD := ⟨("many_mended", none), "many_mended", "many_mended", defArgs s_many_mended, defBody s_many_mended, defScope s_many_mended, [], []⟩
def d_mended_at : He.DefD := ⟨("mended_at", none), "mended_at", "mended_at", defArgs s_mended_at, defBody s_mended_at, defScope s_mended_at, [], []⟩
def d_is_mended : He.DefD := ⟨("is_mended", none), "is_mended", "is_mended", defArgs s_is_mended, defBody s_is_mended, defScope s_is_mended, [], []⟩
def d_number_of : He.DefD := ⟨("number_of", none), "number_of", "number_of", defArgs s_number_of, defBody s_number_of, defScope s_number_of, [], []⟩
def d_worth : He.DefD := ⟨("worth", none), "worth", "worth", defArgs s_worth, defBody s_worth, defScope s_worth, [], []⟩
def d_check_column : He.DefD := ⟨("check_column", none), "check_column", "check_column", defArgs s_check_column, defBody s_check_column, defScope s_check_column, [], []⟩
def d_sum_in : He.DefD := ⟨("sum_in", none), "sum_in", "sum_in", defArgs s_sum_in, defBody s_sum_in, defScope s_sum_in, [], []⟩
def d_best_of : He.DefD := ⟨("best_of", none), "best_of", "best_of", defArgs s_best_of, defBody s_best_of, defScope s_best_of, [], []⟩
def d_sums_by_blocks : He.DefD := ⟨("sums_by_blocks", none), "sums_by_blocks", "sums_by_blocks", defArgs s_sums_by_blocks, defBody s_sums_by_blocks, defScope s_sums_by_blocks, [], []⟩
def d_sums_through : He.DefD := ⟨("sums_through", none), "sums_through", "sums_through", defArgs s_sums_through, defBody s_sums_through, defScope s_sums_through, [], []⟩
def d_sums : He.DefD := ⟨("sums", none), "sums", "sums", defArgs s_sums, defBody s_sums, defScope s_sums, [], []⟩
def d_is_name : He.DefD := ⟨("is_name", none), "is_name", "is_name", defArgs s_is_name, defBody s_is_name, defScope s_is_name, [], []⟩
def d_is_value : He.DefD := ⟨("is_value", none), "is_value", "is_value", defArgs s_is_value, defBody s_is_value, defScope s_is_value, [], []⟩
def d_is_whole : He.DefD := ⟨("is_whole", none), "is_whole", "is_whole", defArgs s_is_whole, defBody s_is_whole, defScope s_is_whole, [], []⟩
def d_is_table : He.DefD := ⟨("is_table", none), "is_table", "is_table", defArgs s_is_table, defBody s_is_table, defScope s_is_table, [], []⟩
def d_is_in : He.DefD := ⟨("is_in", none), "is_in", "is_in", defArgs s_is_in, defBody s_is_in, defScope s_is_in, [], []⟩
def d_is_column : He.DefD := ⟨("is_column", none), "is_column", "is_column", defArgs s_is_column, defBody s_is_column, defScope s_is_column, [], []⟩
def d_is_side : He.DefD := ⟨("is_side", none), "is_side", "is_side", defArgs s_is_side, defBody s_is_side, defScope s_is_side, [], []⟩
def d_are_tests : He.DefD := ⟨("are_tests", none), "are_tests", "are_tests", defArgs s_are_tests, defBody s_are_tests, defScope s_are_tests, [], []⟩
def d_are_columns : He.DefD := ⟨("are_columns", none), "are_columns", "are_columns", defArgs s_are_columns, defBody s_are_columns, defScope s_are_columns, [], []⟩
def d_is_tie : He.DefD := ⟨("is_tie", none), "is_tie", "is_tie", defArgs s_is_tie, defBody s_is_tie, defScope s_is_tie, [], []⟩
def d_is_rule : He.DefD := ⟨("is_rule", none), "is_rule", "is_rule", defArgs s_is_rule, defBody s_is_rule, defScope s_is_rule, [], []⟩
def d_is_row : He.DefD := ⟨("is_row", none), "is_row", "is_row", defArgs s_is_row, defBody s_is_row, defScope s_is_row, [], []⟩
def d_check_rows : He.DefD := ⟨("check_rows", none), "check_rows", "check_rows", defArgs s_check_rows, defBody s_check_rows, defScope s_check_rows, [], []⟩
def d_book_of : He.DefD := ⟨("book_of", none), "book_of", "book_of", defArgs s_book_of, defBody s_book_of, defScope s_book_of, [], []⟩
def d_law_cell_at : He.DefD := ⟨("_law_cell_at", none), "_law_cell_at", "_law_cell_at", defArgs s_law_cell_at, defBody s_law_cell_at, defScope s_law_cell_at, [], []⟩
def d_law_mix : He.DefD := ⟨("_law_mix", none), "_law_mix", "_law_mix", defArgs s_law_mix, defBody s_law_mix, defScope s_law_mix, [], []⟩
def d_law_name : He.DefD := ⟨("_law_name", none), "_law_name", "_law_name", defArgs s_law_name, defBody s_law_name, defScope s_law_name, [], []⟩
def d_law_pool : He.DefD := ⟨("_law_pool", none), "_law_pool", "_law_pool", defArgs s_law_pool, defBody s_law_pool, defScope s_law_pool, [], []⟩
def d_law_tables : He.DefD := ⟨("_law_tables", none), "_law_tables", "_law_tables", defArgs s_law_tables, defBody s_law_tables, defScope s_law_tables, [], []⟩
def d_law_row : He.DefD := ⟨("_law_row", none), "_law_row", "_law_row", defArgs s_law_row, defBody s_law_row, defScope s_law_row, [], []⟩
def d_law_rows : He.DefD := ⟨("_law_rows", none), "_law_rows", "_law_rows", defArgs s_law_rows, defBody s_law_rows, defScope s_law_rows, [], []⟩
def d_law_take : He.DefD := ⟨("_law_take", none), "_law_take", "_law_take", defArgs s_law_take, defBody s_law_take, defScope s_law_take, [], []⟩
def d_law_side : He.DefD := ⟨("_law_side", none), "_law_side", "_law_side", defArgs s_law_side, defBody s_law_side, defScope s_law_side, [], []⟩
def d_law_tests : He.DefD := ⟨("_law_tests", none), "_law_tests", "_law_tests", defArgs s_law_tests, defBody s_law_tests, defScope s_law_tests, [], []⟩
def d_law_rule : He.DefD := ⟨("_law_rule", none), "_law_rule", "_law_rule", defArgs s_law_rule, defBody s_law_rule, defScope s_law_rule, [], []⟩
def d_law_idle : He.DefD := ⟨("_law_idle", none), "_law_idle", "_law_idle", defArgs s_law_idle, defBody s_law_idle, defScope s_law_idle, [], []⟩
def d_law_whole : He.DefD := ⟨("_law_whole", none), "_law_whole", "_law_whole", defArgs s_law_whole, defBody s_law_whole, defScope s_law_whole, [], []⟩
def d_law_turned : He.DefD := ⟨("_law_turned", none), "_law_turned", "_law_turned", defArgs s_law_turned, defBody s_law_turned, defScope s_law_turned, [], []⟩
def d_law_total : He.DefD := ⟨("_law_total", none), "_law_total", "_law_total", defArgs s_law_total, defBody s_law_total, defScope s_law_total, [], []⟩
def d_law_told_right : He.DefD := ⟨("_law_told_right", none), "_law_told_right", "_law_told_right", defArgs s_law_told_right, defBody s_law_told_right, defScope s_law_told_right, [], []⟩
def d_law_column_right : He.DefD := ⟨("_law_column_right", none), "_law_column_right", "_law_column_right", defArgs s_law_column_right, defBody s_law_column_right, defScope s_law_column_right, [], []⟩
def d_law : He.DefD := ⟨("law", none), "law", "law", defArgs s_law, defBody s_law, defScope s_law, [], []⟩
def fn0 : List He.DefD := [d_is_plain, d_check_plain, d_key_of, d_blocks, d_side_value, d_test_holds, d_all_hold, d_init_Never, d_init_Apart, d_init_Tie, d_bars_Apart, d_bars_Tie, d_parts_them_Never, d_parts_them_Tie, d_lacks_Never, d_lacks_Apart, d_bars_Never, d_one_way_Apart, d_parts_them_Apart, d_lacks_Tie]
def fn1 : List He.DefD := [d_rule_of, d_rules_of, d_key_at, d_alone_breaks, d_pair_breaks, d_breaks, d_good, d_held, d_clashes, d_rows_that_clash, d_is_near, d_is_greatest, d_free_sets, d_as_bits, d_greatest_ones, d_mended, d_many_mended, d_mended_at, d_is_mended, d_number_of]
def fn2 : List He.DefD := [d_worth, d_check_column, d_sum_in, d_best_of, d_sums_by_blocks, d_sums_through, d_sums, d_is_name, d_is_value, d_is_whole, d_is_table, d_is_in, d_is_column, d_is_side, d_are_tests, d_are_columns, d_is_tie, d_is_rule, d_is_row, d_check_rows]
def fn3 : List He.DefD := [d_book_of, d_law_cell_at, d_law_mix, d_law_name, d_law_pool, d_law_tables, d_law_row, d_law_rows, d_law_take, d_law_side, d_law_tests, d_law_rule, d_law_idle, d_law_whole, d_law_turned, d_law_total, d_law_told_right, d_law_column_right, d_law]
def fn : List He.DefD := fn0 ++ (fn1 ++ (fn2 ++ (fn3)))
def fa0 : List He.Fa := [.glo "is_plain", .glo "check_plain", .glo "key_of", .glo "blocks", .glo "side_value", .glo "test_holds", .glo "all_hold", .glo "Rule", .glo "Never", .glo "Apart", .glo "Tie", .glo "rule_of", .glo "rules_of", .glo "key_at", .glo "alone_breaks", .glo "pair_breaks", .glo "breaks", .glo "good", .glo "held", .glo "clashes"]
def fa1 : List He.Fa := [.glo "rows_that_clash", .glo "is_near", .glo "is_greatest", .glo "free_sets", .glo "as_bits", .glo "greatest_ones", .glo "mended", .glo "many_mended", .glo "mended_at", .glo "is_mended", .glo "number_of", .glo "worth", .glo "check_column", .glo "sum_in", .glo "best_of", .glo "sums_by_blocks", .glo "sums_through", .glo "sums", .glo "is_name", .glo "is_value"]
def fa2 : List He.Fa := [.glo "is_whole", .glo "is_table", .glo "is_in", .glo "is_column", .glo "is_side", .glo "are_tests", .glo "are_columns", .glo "is_tie", .glo "is_rule", .glo "is_row", .glo "check_rows", .glo "book_of", .glo "_law_cell_at", .glo "_law_mix", .glo "_law_name", .glo "_law_pool", .glo "_law_tables", .glo "_law_row", .glo "_law_rows", .glo "_law_take"]
def fa3 : List He.Fa := [.glo "_law_side", .glo "_law_tests", .glo "_law_rule", .glo "_law_idle", .glo "_law_whole", .glo "_law_turned", .glo "_law_total", .glo "_law_told_right", .glo "_law_column_right", .glo "law", .free "len", .free "isinstance", .free "int", .free "str", .free "bool", .free "tuple", .free "list", .free "all", .free "any", .free "sum"]
def fa4 : List He.Fa := [.free "min", .free "max", .free "sorted", .free "range", .free "enumerate", .int "MOST_CLASHING" 15, .int "MOST_TABLES" 4, .int "MOST_RULES" 6, .int "MOST_ROWS" 60, .int "BEYOND" 1000000000000000000000000000000, .str "LETTERS" "abcdefghijklmnopqrstuvwxyz", .glo "WORDS", .cls "Never", .noat "Never" "parts", .mkr "Never", .meth "Never" "bars", .meth "Never" "parts_them", .meth "Never" "lacks", .cls "Apart", .noat "Apart" "parts"]
def fa5 : List He.Fa := [.mkr "Apart", .meth "Apart" "bars", .meth "Apart" "parts_them", .meth "Apart" "lacks", .cls "Tie", .noat "Tie" "parts", .mkr "Tie", .meth "Tie" "bars", .meth "Tie" "parts_them", .meth "Tie" "lacks", .meth "Apart" "one_way"]
def fa : List He.Fa := fa0 ++ (fa1 ++ (fa2 ++ (fa3 ++ (fa4 ++ (fa5)))))
def nm0 : List PySem.Str := ["MendError", "TooGreat", "NoPlace", "NotPlain", "NoTable", "NoRule", "NoRow", "Twice", "TooWide", "is_plain", "check_plain", "key_of", "blocks", "side_value", "test_holds", "all_hold", "Rule", "Never", "Apart", "Tie", "rule_of", "rules_of", "key_at", "alone_breaks", "pair_breaks", "breaks", "good", "held", "clashes", "MOST_CLASHING"]
def nm1 : List PySem.Str := ["rows_that_clash", "is_near", "is_greatest", "free_sets", "as_bits", "greatest_ones", "mended", "many_mended", "mended_at", "is_mended", "number_of", "worth", "check_column", "sum_in", "best_of", "sums_by_blocks", "sums_through", "sums", "LETTERS", "BEYOND", "is_name", "is_value", "MOST_TABLES", "MOST_RULES", "MOST_ROWS", "WORDS", "is_whole", "is_table", "is_in", "is_column"]
def nm2 : List PySem.Str := ["is_side", "are_tests", "are_columns", "is_tie", "is_rule", "is_row", "check_rows", "book_of", "_law_cell_at", "_law_mix", "_law_name", "_law_pool", "_law_tables", "_law_row", "_law_rows", "_law_take", "_law_side", "_law_tests", "_law_rule", "_law_idle", "_law_whole", "_law_turned", "_law_total", "_law_told_right", "_law_column_right"]
def names : List PySem.Str := nm0 ++ (nm1 ++ (nm2))
abbrev lawAt : Nat := 94
/-! ### the run -/
/-- what of the heap is looked at: the module's names, their code, the classes' own dicts, the methods, their code -/
def codesOf (g : Addr → Option Obj) (as : List Addr) : List Addr := as.flatMap fun a => match g a with
  | some ⟨_, _, .func fd, _⟩ => He.refV fd.code
  | _ => []
def spacesOf (g : Addr → Option Obj) (as : List Addr) : List Addr := as.flatMap fun a => match g a with
  | some ⟨_, _, .cls cd, _⟩ => [cd.ns]
  | _ => []
def heldBy (g : Addr → Option Obj) (as : List Addr) : List Addr := as.flatMap fun a => match g a with
  | some ⟨_, _, .dict es _, _⟩ => es.toList.flatMap fun e => He.refV e.val
  | _ => []
def placesA (g : Addr → Option Obj) : List Addr := mainGlobals :: heldBy g [mainGlobals]
def placesB (g : Addr → Option Obj) (as : List Addr) : List Addr := as ++ spacesOf g as ++ heldBy g (spacesOf g as)
def placesC (g : Addr → Option Obj) (as : List Addr) : List Addr := as ++ codesOf g as
def reachF (g : Addr → Option Obj) : PySem.W.Frag := He.frG g (placesC g (placesB g (placesA g)))
/-- the words that a text may bear -/
def wordsB (K : PySem.W.Frag) : Bool := He.tupB K "WORDS" [.str "same", .str "unlike", .str "less"]
abbrev Seen : Type := He.AlD × Bool
def look (K : PySem.W.Frag) : Seen := (He.obsD fa fn K, wordsB K)
def told : Seen := (He.valD fn, true)
def Says (K : PySem.W.Frag) : Prop := look K = told
abbrev hk : PySem.W.Hook where
  α := Seen
  obs := fun s => look (reachF s.heap.get?)
  val := fun _ => told
  says := fun _ h => ∃ K : PySem.W.Frag, K.In h ∧ Says K
  of := fun _ _ e => ⟨_, He.frG_in, e⟩
  keeps := fun _ _ _ ⟨K, hK, c⟩ k => ⟨K, PySem.W.Frag.In.keeps hK k, c⟩
def ob (s : PySem.W.SharedT) : Seen := look (reachF (HandSHeadRun.getT s))
theorem ob_eq (s : PySem.W.SharedT) : ob s = hk.obs s.abs := by
  have e : HandSHeadRun.getT s = s.abs.heap.get? := funext fun a => HandSHeadRun.getT_eq s a
  show look (reachF (HandSHeadRun.getT s)) = look (reachF s.abs.heap.get?)
  rw [e]
abbrev R : PySem.W.OpenRow := PySem.W.OpenLaw.row PySem.Challenge.rw_mendsure_k93_whole_sums
theorem run (w : World) : HandSHeadRun.RunEq R (PySem.W.view R.prog [lawAt]) hk ob 8000 names w := by
  intro os
  kernel_rfl
end Md
set_option maxHeartbeats 4000000
namespace Md
open PySem L2
open Evl (Ex ex_l ex_t sz_of sz_lt fresh_back)
abbrev St := L2.St

/-! ### data -/
inductive Dt where
  | non | bl (b : Bool) | int (i : Int) | str (x : Str) | lst (xs : List Dt) | tup (xs : List Dt) | obj (k : Nat) (p : Dt)

mutual
/-- v stands for the datum d in the heap H -/
inductive Rp (K : PySem.W.Frag) (cl : Nat → Addr) (H : Hp) : V → Dt → Prop
  | non : Rp K cl H .non .non
  | bl (b : Bool) : Rp K cl H (.bl b) (.bl b)
  | int (i : Int) : Rp K cl H (.int i) (.int i)
  | str (x : Str) : Rp K cl H (.str x) (.str x)
  | lst {a : Addr} {xs : List V} {ds : List Dt} : SqL K H a xs → RpA K cl H xs ds → Rp K cl H (.ref a) (.lst ds)
  | tup {a : Addr} {xs : List V} {ds : List Dt} : H a = some (.tup xs) → RpA K cl H xs ds → Rp K cl H (.ref a) (.tup ds)
  | obj {a dx : Addr} {v : V} {k : Nat} {p : Dt} : H a = some (.ins (cl k) dx [("parts", v)]) → Rp K cl H v p → Rp K cl H (.ref a) (.obj k p)
inductive RpA (K : PySem.W.Frag) (cl : Nat → Addr) (H : Hp) : List V → List Dt → Prop
  | nil : RpA K cl H [] []
  | cons {v : V} {vs : List V} {d : Dt} {ds : List Dt} : Rp K cl H v d → RpA K cl H vs ds → RpA K cl H (v :: vs) (d :: ds)
end
section
variable {K : PySem.W.Frag} {cl : Nat → Addr} {H H' : Hp}
mutual
theorem Rp.mono (e : Ex H H') : ∀ {v : V} {d : Dt}, Rp K cl H v d → Rp K cl H' v d
  | _, _, .non => .non
  | _, _, .bl b => .bl b
  | _, _, .int i => .int i
  | _, _, .str x => .str x
  | _, _, .lst h r => .lst (ex_l e h) (RpA.mono e r)
  | _, _, .tup h r => .tup (e _ _ h) (RpA.mono e r)
  | _, _, .obj h r => .obj (e _ _ h) (Rp.mono e r)
theorem RpA.mono (e : Ex H H') : ∀ {vs : List V} {ds : List Dt}, RpA K cl H vs ds → RpA K cl H' vs ds
  | _, _, .nil => .nil
  | _, _, .cons h r => .cons (Rp.mono e h) (RpA.mono e r)
end
theorem RpA.length : ∀ {vs : List V} {ds : List Dt}, RpA K cl H vs ds → vs.length = ds.length
  | _, _, .nil => rfl
  | _, _, .cons _ r => congrArg Nat.succ r.length
theorem RpA.get : ∀ {vs : List V} {ds : List Dt} {i : Nat} {d : Dt}, RpA K cl H vs ds → ds[i]? = some d → ∃ v, vs[i]? = some v ∧ Rp K cl H v d
  | _, _, _, _, .nil, e => by simp at e
  | _, _, 0, _, .cons r _, e => by
    simp at e
    subst e
    exact ⟨_, rfl, r⟩
  | _, _, i + 1, _, .cons _ t, e => by
    obtain ⟨v, h1, h2⟩ := RpA.get (i := i) t (by simpa using e)
    exact ⟨v, by simpa using h1, h2⟩
theorem RpA.getV : ∀ {vs : List V} {ds : List Dt} {i : Nat} {v : V}, RpA K cl H vs ds → vs[i]? = some v → ∃ d, ds[i]? = some d ∧ Rp K cl H v d
  | _, _, _, _, .nil, e => by simp at e
  | _, _, 0, _, .cons r _, e => by
    simp at e
    subst e
    exact ⟨_, rfl, r⟩
  | _, _, i + 1, _, .cons _ t, e => by
    obtain ⟨v, h1, h2⟩ := RpA.getV (i := i) t (by simpa using e)
    exact ⟨v, by simpa using h1, h2⟩
theorem RpA.append : ∀ {vs us : List V} {ds es : List Dt}, RpA K cl H vs ds → RpA K cl H us es → RpA K cl H (vs ++ us) (ds ++ es)
  | _, _, _, _, .nil, s => s
  | _, _, _, _, .cons r t, s => .cons r (RpA.append t s)
theorem RpA.take : ∀ {vs : List V} {ds : List Dt} (n : Nat), RpA K cl H vs ds → RpA K cl H (vs.take n) (ds.take n)
  | _, _, 0, _ => .nil
  | _, _, _ + 1, .nil => .nil
  | _, _, n + 1, .cons r t => .cons r (RpA.take n t)
theorem RpA.drop : ∀ {vs : List V} {ds : List Dt} (n : Nat), RpA K cl H vs ds → RpA K cl H (vs.drop n) (ds.drop n)
  | _, _, 0, r => r
  | _, _, _ + 1, .nil => .nil
  | _, _, n + 1, .cons _ t => RpA.drop n t
theorem RpA.ints : ∀ {vs : List V} {ns : List Int}, RpA K cl H vs (ns.map Dt.int) → vs = ns.map V.int
  | _, [], h => by
    cases h
    rfl
  | _, n :: ns, h => by
    cases h with
    | cons r t =>
      cases r
      rw [RpA.ints t]
      rfl
theorem RpA.of_ints (ns : List Int) : RpA K cl H (ns.map V.int) (ns.map Dt.int) := by
  induction ns with
  | nil => exact .nil
  | cons n ns ih => exact .cons (.int n) ih
theorem RpA.bools : ∀ {vs : List V} {bs : List Bool}, RpA K cl H vs (bs.map Dt.bl) → vs = bs.map V.bl
  | _, [], h => by
    cases h
    rfl
  | _, n :: ns, h => by
    cases h with
    | cons r t =>
      cases r
      rw [RpA.bools t]
      rfl
theorem RpA.nil_inv {vs : List V} (h : RpA K cl H vs []) : vs = [] := by
  cases h
  rfl
theorem RpA.cons_inv {vs : List V} {d : Dt} {ds : List Dt} (h : RpA K cl H vs (d :: ds)) : ∃ v r, vs = v :: r ∧ Rp K cl H v d ∧ RpA K cl H r ds := by
  cases h with
  | cons a b => exact ⟨_, _, rfl, a, b⟩
end

/-! ### plain data: without objects -/
mutual
def Dt.py : Dt → PyData
  | .non => .none
  | .bl b => .bool b
  | .int i => .int i
  | .str x => .str x
  | .lst xs => .list (Dt.pys xs)
  | .tup xs => .tuple (Dt.pys xs)
  | .obj _ _ => .none
def Dt.pys : List Dt → List PyData
  | [] => []
  | x :: xs => Dt.py x :: Dt.pys xs
end
mutual
def Dt.plain : Dt → Bool
  | .lst xs => Dt.plains xs
  | .tup xs => Dt.plains xs
  | .obj _ _ => false
  | _ => true
def Dt.plains : List Dt → Bool
  | [] => true
  | x :: xs => Dt.plain x && Dt.plains xs
end
section
variable {K : PySem.W.Frag} {cl : Nat → Addr} {H : Hp}
mutual
theorem Rp.dp : ∀ {v : V} {d : Dt}, Rp K cl H v d → d.plain = true → Dp K H v d.py
  | _, _, .non, _ => .non
  | _, _, .bl b, _ => .bl b
  | _, _, .int i, _ => .int i
  | _, _, .str x, _ => .str x
  | _, _, .lst h r, p => .lst h (RpA.dp r (by rw [Dt.plain] at p; exact p))
  | _, _, .tup h r, p => .tup (SqT.of h) (RpA.dp r (by rw [Dt.plain] at p; exact p))
  | _, _, .obj _ _, p => by
    rw [Dt.plain] at p
    cases p
theorem RpA.dp : ∀ {vs : List V} {ds : List Dt}, RpA K cl H vs ds → Dt.plains ds = true → DpAll K H vs (Dt.pys ds)
  | _, _, .nil, _ => .nil
  | _, _, .cons h r, p => by
    rw [Dt.plains, Bool.and_eq_true] at p
    exact .cons (Rp.dp h p.1) (RpA.dp r p.2)
end
end

/-! ### slots -/
/-- what a def's own object holds: a list, a dict with int keys, one whose keys are tuples of ints -/
inductive Mo where
  | ls (xs : List Dt) | di (kvs : List (Int × Dt)) | dt (kvs : List (List Int × Dt)) | lk (p : Addr) (u : HO) (kvs : List (Int × Dt))
/-- a slot: nothing known; a datum; an object of the def's own; the caller's list of one int -/
inductive Sl where
  | no | im (d : Dt) | ow (m : Mo) | pm (s : Int)
abbrev Ro := List Sl
def hide (O : Addr → Bool) (H : Hp) : Hp := fun a => if O a = true then none else H a
theorem hide_at {O : Addr → Bool} {H : Hp} {a : Addr} {o : HO} : hide O H a = some o ↔ O a = false ∧ H a = some o := by
  unfold hide
  cases O a <;> simp
theorem hide_ex (O : Addr → Bool) (H : Hp) : Ex (hide O H) H := fun a o h => (hide_at.mp h).2
def MoOk (K : PySem.W.Frag) (cl : Nat → Addr) (G : Hp) (a : Addr) (o : Option HO) : Mo → Prop
  | .ls xs => ∃ vs, o = some (.lst vs) ∧ RpA K cl G vs xs
  | .di kvs => ∃ ws, o = some (.dK ws) ∧ Paired (fun (p : Key × V) (q : Int × Dt) => p.1 = Sum.inl q.1 ∧ Rp K cl G p.2 q.2) ws kvs
  | .dt kvs => ∃ ws, o = some (.dT ws) ∧ Paired (fun (p : List Key × V) (q : List Int × Dt) => p.1 = q.1.map Sum.inl ∧ Rp K cl G p.2 q.2) ws kvs
  | .lk p u kvs => a = p ∧ o = some u ∧ ∃ od ws, u = .frz od (.dK ws) ∧ Paired (fun (p : Key × V) (q : Int × Dt) => p.1 = Sum.inl q.1 ∧ Rp K cl G p.2 q.2) ws kvs
theorem MoOk.noTup {K : PySem.W.Frag} {cl : Nat → Addr} {G : Hp} {a : Addr} {o : Option HO} : ∀ {m : Mo}, MoOk K cl G a o m → o ≠ none ∧ ∀ xs, o ≠ some (.tup xs)
  | .ls _, ⟨vs, h, r⟩ => by
    subst h
    exact ⟨(fun z => by cases z), fun _ z => by cases z⟩
  | .di _, ⟨ws, h, r⟩ => by
    subst h
    exact ⟨(fun z => by cases z), fun _ z => by cases z⟩
  | .dt _, ⟨ws, h, r⟩ => by
    subst h
    exact ⟨(fun z => by cases z), fun _ z => by cases z⟩
  | .lk _ _ _, ⟨h1, h2, od, ws, h, r⟩ => by
    subst h2 h
    exact ⟨(fun z => by cases z), fun _ z => by cases z⟩
theorem MoOk.mono {K : PySem.W.Frag} {cl : Nat → Addr} {G G' : Hp} {a : Addr} {o : Option HO} (e : Ex G G') : ∀ {m : Mo}, MoOk K cl G a o m → MoOk K cl G' a o m
  | .ls _, ⟨vs, h, r⟩ => ⟨vs, h, r.mono e⟩
  | .di _, ⟨ws, h, r⟩ => ⟨ws, h, Paired.mapP r fun _ _ x => ⟨x.1, x.2.mono e⟩⟩
  | .dt _, ⟨ws, h, r⟩ => ⟨ws, h, Paired.mapP r fun _ _ x => ⟨x.1, x.2.mono e⟩⟩
  | .lk _ _ _, ⟨h1, h2, od, ws, h, r⟩ => ⟨h1, h2, od, ws, h, Paired.mapP r fun _ _ x => ⟨x.1, x.2.mono e⟩⟩

/-! ### where one stands -/
/-- what stays through a def's run: the heap at its entry, what is hidden from it, the caller's object that it may change -/
structure Fx where
  K : PySem.W.Frag
  cl : Nat → Addr
  H0 : Hp
  B : Addr → Bool
  M : Option Addr
/-- what is hidden is there, and no tuple -/
def Al (O : Addr → Bool) (H : Hp) : Prop := ∀ a, O a = true → H a ≠ none ∧ ∀ xs, H a ≠ some (.tup xs)
/-- the slots σ in the heap H are as ρ says; O: the objects that no datum leans on -/
structure Rel (F : Fx) (O : Addr → Bool) (H : Hp) (σ : St) (ρ : Ro) : Prop where
  len : σ.length = ρ.length
  sub : ∀ a, F.B a = true → O a = true
  al : Al O H
  mb : ∀ a, F.M = some a → F.B a = true
  fr : ∀ a, O a = true → F.B a = false → F.H0 a = none
  kp : ∀ a o, F.H0 a = some o → F.M ≠ some a → H a = some o
  im : ∀ (i : Nat) (d : Dt), ρ[i]? = some (.im d) → ∃ v, σ[i]? = some (some v) ∧ Rp F.K F.cl (hide O H) v d
  ow : ∀ (i : Nat) (m : Mo), ρ[i]? = some (.ow m) → ∃ a, σ[i]? = some (some (.ref a)) ∧ O a = true ∧ F.B a = false ∧ MoOk F.K F.cl (hide O H) a (H a) m
  pm : ∀ (i : Nat) (s : Int), ρ[i]? = some (.pm s) → ∃ a, F.M = some a ∧ σ[i]? = some (some (.ref a)) ∧ H a = some (.lst [.int s])
  sep : ∀ (i j : Nat) (m m' : Mo) (a : Addr), ρ[i]? = some (.ow m) → ρ[j]? = some (.ow m') → σ[i]? = some (some (.ref a)) → σ[j]? = some (some (.ref a)) → i = j
/-- what is seen stays -/
def Vk (O : Addr → Bool) (H H' : Hp) : Prop := ∀ a o, O a = false → H a = some o → H' a = some o
def Le (O' O : Addr → Bool) : Prop := ∀ a, O' a = true → O a = true
theorem Le.refl (O : Addr → Bool) : Le O O := fun _ h => h
theorem Le.trans {O O1 O2 : Addr → Bool} (a : Le O1 O) (b : Le O2 O1) : Le O2 O := fun x h => a x (b x h)
theorem Le.no {O O' : Addr → Bool} (l : Le O' O) {a : Addr} (h : O a = false) : O' a = false := by
  cases e : O' a with
  | false => rfl
  | true =>
    rw [l a e] at h
    cases h
theorem Vk.refl (O : Addr → Bool) (H : Hp) : Vk O H H := fun _ _ _ h => h
theorem Vk.ex {O : Addr → Bool} {H H' : Hp} (e : Ex H H') : Vk O H H' := fun a o _ h => e a o h
theorem Vk.trans {O O1 : Addr → Bool} {H H1 H2 : Hp} (l : Le O1 O) (a : Vk O H H1) (b : Vk O1 H1 H2) : Vk O H H2 := fun x o n h => b x o (l.no n) (a x o n h)
theorem Vk.hid {O O' : Addr → Bool} {H H' : Hp} (l : Le O' O) (k : Vk O H H') : Ex (hide O H) (hide O' H') := fun a o h => by
  obtain ⟨n, h⟩ := hide_at.mp h
  exact hide_at.mpr ⟨l.no n, k a o n h⟩
section
variable {F : Fx} {O O' : Addr → Bool} {H H' : Hp} {σ : St} {ρ ρ' : Ro} {d : Dt} {v : V}
theorem Rp.later (r : Rp F.K F.cl (hide O H) v d) (l : Le O' O) (k : Vk O H H') : Rp F.K F.cl (hide O' H') v d := r.mono (k.hid l)
theorem RpA.later {vs : List V} {ds : List Dt} (r : RpA F.K F.cl (hide O H) vs ds) (l : Le O' O) (k : Vk O H H') : RpA F.K F.cl (hide O' H') vs ds := r.mono (k.hid l)
theorem Rp.ex (r : Rp F.K F.cl (hide O H) v d) (e : Ex H H') : Rp F.K F.cl (hide O H') v d := r.later (Le.refl O) (Vk.ex e)
theorem RpA.ex {vs : List V} {ds : List Dt} (r : RpA F.K F.cl (hide O H) vs ds) (e : Ex H H') : RpA F.K F.cl (hide O H') vs ds := r.later (Le.refl O) (Vk.ex e)
theorem hide_exx (O : Addr → Bool) {H H' : Hp} (e : Ex H H') : Ex (hide O H) (hide O H') := (Vk.ex (O := O) e).hid (Le.refl O)
/-- more has been made -/
theorem Rel.ex (R : Rel F O H σ ρ) (e : Ex H H') : Rel F O H' σ ρ where
  len := R.len
  sub := R.sub
  al := fun a h => by
    cases q : H a with
    | none => exact absurd q (R.al a h).1
    | some o =>
      rw [e a o q]
      exact ⟨(fun z => by cases z), fun xs z => (R.al a h).2 xs (q.trans z)⟩
  mb := R.mb
  fr := R.fr
  kp := fun a o h n => e a o (R.kp a o h n)
  im := fun i d h => by
    obtain ⟨v, h1, h2⟩ := R.im i d h
    exact ⟨v, h1, h2.ex e⟩
  ow := fun i m h => by
    obtain ⟨a, h1, h2, h3, h4⟩ := R.ow i m h
    refine ⟨a, h1, h2, h3, ?_⟩
    cases q : H a with
    | none => exact absurd q (R.al a h2).1
    | some o =>
      rw [e a o q, ← q]
      exact h4.mono (hide_exx O e)
  pm := fun i s h => by
    obtain ⟨a, h1, h2, h3⟩ := R.pm i s h
    exact ⟨a, h1, h2, e _ _ h3⟩
  sep := R.sep
theorem Rel.noH (R : Rel F O H σ ρ) {p : Addr} (h : H p = none) : O p = false := by
  cases e : O p with
  | false => rfl
  | true => exact absurd h (R.al p e).1
theorem Rel.new0 (R : Rel F O H σ ρ) {p : Addr} (h : H p = none) : F.H0 p = none := by
  cases e : F.H0 p with
  | none => rfl
  | some o =>
    by_cases hm : F.M = some p
    · exact absurd h (R.al p (R.sub p (R.mb p hm))).1
    · rw [R.kp p o e hm] at h
      cases h
theorem Rel.newB (R : Rel F O H σ ρ) {p : Addr} (h : H p = none) : F.B p = false := by
  cases e : F.B p with
  | false => rfl
  | true => exact absurd h (R.al p (R.sub p e)).1
end

/-! ### what evaluates to what -/
section
variable (F : Fx)
def Ev (te : TE) (ρ : Ro) (d : Dt) (ρ' : Ro) : Prop := ∀ O σ H, Rel F O H σ ρ → ∀ Q : VK, (∀ v O' H', Le O' O → Vk O H H' → Rel F O' H' σ ρ' → Rp F.K F.cl (hide O' H') v d → Q v H') → te σ H Q
def EvT (tt : TT) (ρ : Ro) (b : Bool) (ρ' : Ro) : Prop := ∀ O σ H, Rel F O H σ ρ → ∀ Q : Bool → Hp → Prop, (∀ O' H', Le O' O → Vk O H H' → Rel F O' H' σ ρ' → Q b H') → tt σ H Q
def EvA (ta : TA) (ρ : Ro) (ds : List Dt) (ρ' : Ro) : Prop := ∀ O σ H, Rel F O H σ ρ → ∀ Q : List V → Hp → Prop, (∀ vs O' H', Le O' O → Vk O H H' → Rel F O' H' σ ρ' → RpA F.K F.cl (hide O' H') vs ds → Q vs H') → ta σ H Q
def EvO (to : TO) (ρ : Ro) (o : Option Int) (ρ' : Ro) : Prop := ∀ O σ H, Rel F O H σ ρ → ∀ Q : Option Int → Hp → Prop, (∀ O' H', Le O' O → Vk O H H' → Rel F O' H' σ ρ' → Q o H') → to σ H Q
/-- an operation on values that makes at most new things -/
def Rv (r : R2) (d1 d2 d : Dt) : Prop := ∀ (x y : V) (O : Addr → Bool) (H : Hp), Al O H → Rp F.K F.cl (hide O H) x d1 → Rp F.K F.cl (hide O H) y d2 →
  ∀ Q : VK, (∀ z H', Ex H H' → Rp F.K F.cl (hide O H') z d → Q z H') → r x y H Q
def Ru (r : V → Hp → VK → Prop) (d1 d : Dt) : Prop := ∀ (x : V) (O : Addr → Bool) (H : Hp), Al O H → Rp F.K F.cl (hide O H) x d1 →
  ∀ Q : VK, (∀ z H', Ex H H' → Rp F.K F.cl (hide O H') z d → Q z H') → r x H Q
def Rc (r : List V → Hp → VK → Prop) (ds : List Dt) (d : Dt) : Prop := ∀ (xs : List V) (O : Addr → Bool) (H : Hp), Al O H → RpA F.K F.cl (hide O H) xs ds →
  ∀ Q : VK, (∀ z H', Ex H H' → Rp F.K F.cl (hide O H') z d → Q z H') → r xs H Q
end
section
variable {F : Fx} {ρ ρ1 ρ2 ρ3 : Ro} {d d1 d2 d3 : Dt} {ta tb tc te : TE} {t u : TT} {a b : Bool} {i j : Int}
theorem ev_var {k : Nat} (h : ρ[k]? = some (.im d)) : Ev F (tVar k) ρ d ρ := fun O σ H R Q q => by
  obtain ⟨v, h1, h2⟩ := R.im k d h
  exact ⟨v, h1, q v O H (Le.refl O) (Vk.refl O H) R h2⟩
theorem ev_int : Ev F (tC (.int i)) ρ (.int i) ρ := fun O σ H R Q q => q _ O H (Le.refl O) (Vk.refl O H) R (.int i)
theorem ev_str {x : Str} : Ev F (tC (.str x)) ρ (.str x) ρ := fun O σ H R Q q => q _ O H (Le.refl O) (Vk.refl O H) R (.str x)
theorem ev_bl : Ev F (tC (.bl b)) ρ (.bl b) ρ := fun O σ H R Q q => q _ O H (Le.refl O) (Vk.refl O H) R (.bl b)
theorem ev_non : Ev F (tC .non) ρ .non ρ := fun O σ H R Q q => q _ O H (Le.refl O) (Vk.refl O H) R .non
theorem ev_op {r : R2} (ha : Ev F ta ρ d1 ρ1) (hb : Ev F tb ρ1 d2 ρ2) (hr : Rv F r d1 d2 d) : Ev F (tOp r ta tb) ρ d ρ2 := fun O σ H R Q q =>
  ha O σ H R _ fun x O1 H1 l1 k1 R1 r1 => hb O1 σ H1 R1 _ fun y O2 H2 l2 k2 R2 r2 => hr x y O2 H2 R2.al (r1.later l2 k2) r2 Q fun z H3 e r3 =>
    q z O2 H3 (l1.trans l2) ((k1.trans l1 k2).trans (l1.trans l2) (Vk.ex e)) (R2.ex e) r3
theorem ev_un {r : V → Hp → VK → Prop} (ha : Ev F ta ρ d1 ρ1) (hr : Ru F r d1 d) : Ev F (tUn r ta) ρ d ρ1 := fun O σ H R Q q =>
  ha O σ H R _ fun x O1 H1 l1 k1 R1 r1 => hr x O1 H1 R1.al r1 Q fun z H3 e r3 => q z O1 H3 l1 (k1.trans l1 (Vk.ex e)) (R1.ex e) r3
theorem ev_is (h : Ev F te ρ d ρ1) (e : d = d1) : Ev F te ρ d1 ρ1 := e ▸ h
theorem et_is (h : EvT F t ρ a ρ1) (e : a = b) : EvT F t ρ b ρ1 := e ▸ h
theorem et_test (h : Ev F te ρ (.bl b) ρ1) : EvT F (tTest te) ρ b ρ1 := fun O σ H R Q q => h O σ H R _ fun v O1 H1 l k R1 r => by
  cases r
  exact ⟨b, rfl, q O1 H1 l k R1⟩
theorem et_B (h : Ev F te ρ (.bl b) ρ1) : EvT F (tB te) ρ b ρ1 := fun O σ H R Q q => h O σ H R _ fun v O1 H1 l k R1 r => by
  cases r
  exact ⟨b, rfl, q O1 H1 l k R1⟩
theorem et_not (h : EvT F t ρ a ρ1) : EvT F (tNot t) ρ (!a) ρ1 := fun O σ H R Q q => h O σ H R _ fun O1 H1 l k R1 => q O1 H1 l k R1
/-- and, or: the second part is asked only where it is needed; what it changes stands in the end (a plain part changes nothing) -/
theorem et_and (h1 : EvT F t ρ a ρ) (h2 : a = true → EvT F u ρ b ρ) : EvT F (tAnd t u) ρ (a && b) ρ := fun O σ H R Q q => h1 O σ H R _ fun O1 H1 l k R1 => by
  cases a with
  | true =>
    show u σ H1 Q
    exact h2 rfl O1 σ H1 R1 Q fun O2 H2 l2 k2 R2 => q O2 H2 (l.trans l2) (k.trans l k2) R2
  | false =>
    show Q false H1
    exact q O1 H1 l k R1
theorem et_or (h1 : EvT F t ρ a ρ) (h2 : a = false → EvT F u ρ b ρ) : EvT F (tOr t u) ρ (a || b) ρ := fun O σ H R Q q => h1 O σ H R _ fun O1 H1 l k R1 => by
  cases a with
  | false =>
    show u σ H1 Q
    exact h2 rfl O1 σ H1 R1 Q fun O2 H2 l2 k2 R2 => q O2 H2 (l.trans l2) (k.trans l k2) R2
  | true =>
    show Q true H1
    exact q O1 H1 l k R1
theorem ev_andV (h1 : Ev F ta ρ (.bl a) ρ) (h2 : a = true → Ev F tb ρ (.bl b) ρ) : Ev F (tAndV ta tb) ρ (.bl (a && b)) ρ := fun O σ H R Q q => h1 O σ H R _ fun v O1 H1 l k R1 r => by
  cases r
  refine ⟨a, rfl, ?_⟩
  cases a with
  | true =>
    show tb σ H1 Q
    exact h2 rfl O1 σ H1 R1 Q fun w O2 H2 l2 k2 R2 r2 => q w O2 H2 (l.trans l2) (k.trans l k2) R2 r2
  | false =>
    show Q (.bl false) H1
    exact q _ O1 H1 l k R1 (.bl false)
theorem ev_orV (h1 : Ev F ta ρ (.bl a) ρ) (h2 : a = false → Ev F tb ρ (.bl b) ρ) : Ev F (tOrV ta tb) ρ (.bl (a || b)) ρ := fun O σ H R Q q => h1 O σ H R _ fun v O1 H1 l k R1 r => by
  cases r
  refine ⟨a, rfl, ?_⟩
  cases a with
  | false =>
    show tb σ H1 Q
    exact h2 rfl O1 σ H1 R1 Q fun w O2 H2 l2 k2 R2 r2 => q w O2 H2 (l.trans l2) (k.trans l k2) R2 r2
  | true =>
    show Q (.bl true) H1
    exact q _ O1 H1 l k R1 (.bl true)
theorem ev_notV (h1 : Ev F ta ρ (.bl a) ρ1) : Ev F (tNotV ta) ρ (.bl (!a)) ρ1 := fun O σ H R Q q => h1 O σ H R _ fun v O1 H1 l k R1 r => by
  cases r
  exact ⟨a, rfl, q _ O1 H1 l k R1 (.bl _)⟩
theorem ev_ifx (h : EvT F t ρ b ρ1) (h1 : b = true → Ev F ta ρ1 d ρ2) (h2 : b = false → Ev F tb ρ1 d ρ2) : Ev F (tIf t ta tb) ρ d ρ2 := fun O σ H R Q q => h O σ H R _ fun O1 H1 l k R1 => by
  cases b with
  | true =>
    show ta σ H1 Q
    exact h1 rfl O1 σ H1 R1 Q fun w O2 H2 l2 k2 R2 r2 => q w O2 H2 (l.trans l2) (k.trans l k2) R2 r2
  | false =>
    show tb σ H1 Q
    exact h2 rfl O1 σ H1 R1 Q fun w O2 H2 l2 k2 R2 r2 => q w O2 H2 (l.trans l2) (k.trans l k2) R2 r2
/-- a < b < c -/
theorem ev_chain {r r' : R2} (ha : Ev F ta ρ d1 ρ1) (hb : Ev F tb ρ1 d2 ρ2) (hr : Rv F r d1 d2 (.bl a)) (hc : a = true → Ev F tc ρ2 d3 ρ2 ∧ Rv F r' d2 d3 (.bl b)) : Ev F (tChain r r' ta tb tc) ρ (.bl (a && b)) ρ2 := fun O σ H R Q q =>
  ha O σ H R _ fun x O1 H1 l1 k1 R1 r1 => hb O1 σ H1 R1 _ fun y O2 H2 l2 k2 R2 r2 => hr x y O2 H2 R2.al (r1.later l2 k2) r2 _ fun z H3 e r3 => by
    cases r3
    refine ⟨a, rfl, ?_⟩
    have l := l1.trans l2
    have k : Vk O H H3 := (k1.trans l1 k2).trans l (Vk.ex e)
    cases a with
    | true =>
      obtain ⟨c1, c2⟩ := hc rfl
      show tc σ H3 _
      exact c1 O2 σ H3 (R2.ex e) _ fun w O4 H4 l4 k4 R4 r4 => c2 y w O4 H4 R4.al ((r2.ex e).later l4 k4) r4 Q fun z H5 e5 r5 =>
        q z O4 H5 (l.trans l4) ((k.trans l k4).trans (l.trans l4) (Vk.ex e5)) (R4.ex e5) r5
    | false =>
      show Q (.bl false) H3
      exact q _ O2 H3 l k (R2.ex e) (.bl false)
/-! ### argument lists, displays -/
theorem ea_nil : EvA F tNil ρ [] ρ := fun O σ H R Q q => q [] O H (Le.refl O) (Vk.refl O H) R .nil
theorem ea_cons {tr : TA} {ds : List Dt} (h : Ev F ta ρ d ρ1) (hr : EvA F tr ρ1 ds ρ2) : EvA F (tCons ta tr) ρ (d :: ds) ρ2 := fun O σ H R Q q =>
  h O σ H R _ fun v O1 H1 l1 k1 R1 r1 => hr O1 σ H1 R1 _ fun vs O2 H2 l2 k2 R2 r2 => q _ O2 H2 (l1.trans l2) (k1.trans l1 k2) R2 (.cons (r1.later l2 k2) r2)
theorem Rp.tupNew {O : Addr → Bool} {H : Hp} {p : Addr} {vs : List V} {ds : List Dt} (hO : O p = false) (hp : H p = none) (r : RpA F.K F.cl (hide O H) vs ds) : Rp F.K F.cl (hide O (upd H p (.tup vs))) (.ref p) (.tup ds) :=
  .tup (hide_at.mpr ⟨hO, upd_same⟩) (r.ex (Ex.new hp))
theorem Rp.lstNew {O : Addr → Bool} {H : Hp} {p : Addr} {vs : List V} {ds : List Dt} (hO : O p = false) (hp : H p = none) (r : RpA F.K F.cl (hide O H) vs ds) : Rp F.K F.cl (hide O (upd H p (.lst vs))) (.ref p) (.lst ds) :=
  .lst (.inl (.inl (hide_at.mpr ⟨hO, upd_same⟩))) (r.ex (Ex.new hp))
theorem no_of {O : Addr → Bool} {H : Hp} {p : Addr} (al : Al O H) (h : H p = none) : O p = false := by
  cases e : O p with
  | false => rfl
  | true => exact absurd h (al p e).1
theorem ev_tup {t : TA} {ds : List Dt} (h : EvA F t ρ ds ρ1) (hl : ds.length ≤ 100000) : Ev F (tTup t) ρ (.tup ds) ρ1 := fun O σ H R Q q =>
  h O σ H R _ fun vs O1 H1 l k R1 r => ⟨sz_of (by rw [r.length]; exact hl), fun p hp => q _ O1 _ l (k.trans l (Vk.ex (Ex.new hp))) (R1.ex (Ex.new hp)) (Rp.tupNew (R1.noH hp) hp r)⟩
theorem ev_lst {t : TA} {ds : List Dt} (h : EvA F t ρ ds ρ1) (hl : ds.length ≤ 100000) : Ev F (tLst t) ρ (.lst ds) ρ1 := fun O σ H R Q q =>
  h O σ H R _ fun vs O1 H1 l k R1 r => ⟨sz_of (by rw [r.length]; exact hl), fun p hp => q _ O1 _ l (k.trans l (Vk.ex (Ex.new hp))) (R1.ex (Ex.new hp)) (Rp.lstNew (R1.noH hp) hp r)⟩
theorem ev_CB {r : List V → Hp → VK → Prop} {t : TA} {ds : List Dt} (h : EvA F t ρ ds ρ1) (hr : Rc F r ds d) : Ev F (tCB r t) ρ d ρ1 := fun O σ H R Q q =>
  h O σ H R _ fun vs O1 H1 l1 k1 R1 r1 => hr vs O1 H1 R1.al r1 Q fun z H3 e r3 => q z O1 H3 l1 (k1.trans l1 (Vk.ex e)) (R1.ex e) r3
/-! ### slices -/
theorem eo_none : EvO F tNoPart ρ none ρ := fun O σ H R Q q => q O H (Le.refl O) (Vk.refl O H) R
theorem eo_some (h : Ev F te ρ (.int i) ρ1) : EvO F (tPart te) ρ (some i) ρ1 := fun O σ H R Q q => h O σ H R _ fun v O1 H1 l k R1 r => by
  cases r
  exact ⟨i, rfl, q O1 H1 l k R1⟩
def Rs (F : Fx) (r : V → Option Int → Option Int → Hp → VK → Prop) (d1 : Dt) (lo hi : Option Int) (d : Dt) : Prop := ∀ (x : V) (O : Addr → Bool) (H : Hp), Al O H → Rp F.K F.cl (hide O H) x d1 →
  ∀ Q : VK, (∀ z H', Ex H H' → Rp F.K F.cl (hide O H') z d → Q z H') → r x lo hi H Q
theorem ev_sl {r : V → Option Int → Option Int → Hp → VK → Prop} {tl th : TO} {lo hi : Option Int} (h : Ev F te ρ d1 ρ1) (hl : EvO F tl ρ1 lo ρ2) (hh : EvO F th ρ2 hi ρ3) (hr : Rs F r d1 lo hi d) : Ev F (tSl r te tl th) ρ d ρ3 := fun O σ H R Q q =>
  h O σ H R _ fun x O1 H1 l1 k1 R1 r1 => hl O1 σ H1 R1 _ fun O2 H2 l2 k2 R2 => hh O2 σ H2 R2 _ fun O3 H3 l3 k3 R3 =>
    hr x O3 H3 R3.al ((r1.later l2 k2).later l3 k3) Q fun z H4 e r4 => q z O3 H4 ((l1.trans l2).trans l3) (((k1.trans l1 k2).trans (l1.trans l2) k3).trans ((l1.trans l2).trans l3) (Vk.ex e)) (R3.ex e) r4
end
end Md
namespace Md
open PySem L2
open Evl (Ex ex_l ex_t sz_of sz_lt fresh_back)
section
variable {F : Fx} {O O' : Addr → Bool} {H H' : Hp} {σ σ' : St} {ρ ρ' ρ1 ρ2 ρ3 : Ro} {d d1 d2 : Dt} {v : V}
/-! ### slots stored -/
theorem set_cases {α : Type} {l : List α} {i j : Nat} {x y : α} (h : (l.set i x)[j]? = some y) : (i = j ∧ x = y) ∨ (i ≠ j ∧ l[j]? = some y) := by
  by_cases e : i = j
  · subst e
    rw [List.getElem?_set] at h
    simp only [if_true] at h
    split at h
    · exact .inl ⟨rfl, Option.some.inj h⟩
    · cases h
  · rw [List.getElem?_set_ne e] at h
    exact .inr ⟨e, h⟩
theorem set_lt {α : Type} {l : List α} {i : Nat} {x y : α} (h : (l.set i x)[i]? = some y) : i < l.length := by
  have := (List.getElem?_eq_some_iff.mp h).1
  rwa [List.length_set] at this
theorem Rel.set (R : Rel F O H σ ρ) (r : Rp F.K F.cl (hide O H) v d) (i : Nat) : Rel F O H (σ.set i (some v)) (ρ.set i (.im d)) where
  len := by rw [List.length_set, List.length_set, R.len]
  sub := R.sub
  al := R.al
  mb := R.mb
  fr := R.fr
  kp := R.kp
  im := fun j e h => by
    rcases set_cases h with ⟨q, z⟩ | ⟨q, z⟩
    · cases z
      subst q
      have hl := set_lt h
      exact ⟨v, by rw [List.getElem?_set_self (by rw [R.len]; exact hl)], r⟩
    · obtain ⟨w, h1, h2⟩ := R.im j e z
      exact ⟨w, by rw [List.getElem?_set_ne q]; exact h1, h2⟩
  ow := fun j m h => by
    rcases set_cases h with ⟨q, z⟩ | ⟨q, z⟩
    · cases z
    · obtain ⟨a, h1, h2⟩ := R.ow j m z
      exact ⟨a, by rw [List.getElem?_set_ne q]; exact h1, h2⟩
  pm := fun j m h => by
    rcases set_cases h with ⟨q, z⟩ | ⟨q, z⟩
    · cases z
    · obtain ⟨a, h1, h2, h3⟩ := R.pm j m z
      exact ⟨a, h1, by rw [List.getElem?_set_ne q]; exact h2, h3⟩
  sep := fun j k m m' a hj hk h1 h2 => by
    rcases set_cases hj with ⟨q, z⟩ | ⟨q, z⟩
    · cases z
    rcases set_cases hk with ⟨q', z'⟩ | ⟨q', z'⟩
    · cases z'
    rw [List.getElem?_set_ne q] at h1
    rw [List.getElem?_set_ne q'] at h2
    exact R.sep j k m m' a z z' h1 h2
/-- a slot forgotten -/
theorem Rel.drop (R : Rel F O H σ ρ) (i : Nat) (w : Option V) : Rel F O H (σ.set i w) (ρ.set i .no) where
  len := by rw [List.length_set, List.length_set, R.len]
  sub := R.sub
  al := R.al
  mb := R.mb
  fr := R.fr
  kp := R.kp
  im := fun j e h => by
    rcases set_cases h with ⟨q, z⟩ | ⟨q, z⟩
    · cases z
    · obtain ⟨w, h1, h2⟩ := R.im j e z
      exact ⟨w, by rw [List.getElem?_set_ne q]; exact h1, h2⟩
  ow := fun j m h => by
    rcases set_cases h with ⟨q, z⟩ | ⟨q, z⟩
    · cases z
    · obtain ⟨a, h1, h2⟩ := R.ow j m z
      exact ⟨a, by rw [List.getElem?_set_ne q]; exact h1, h2⟩
  pm := fun j m h => by
    rcases set_cases h with ⟨q, z⟩ | ⟨q, z⟩
    · cases z
    · obtain ⟨a, h1, h2, h3⟩ := R.pm j m z
      exact ⟨a, h1, by rw [List.getElem?_set_ne q]; exact h2, h3⟩
  sep := fun j k m m' a hj hk h1 h2 => by
    rcases set_cases hj with ⟨q, z⟩ | ⟨q, z⟩
    · cases z
    rcases set_cases hk with ⟨q', z'⟩ | ⟨q', z'⟩
    · cases z'
    rw [List.getElem?_set_ne q] at h1
    rw [List.getElem?_set_ne q'] at h2
    exact R.sep j k m m' a z z' h1 h2

/-! ### targets -/
/-- but for the slots is all is as it was -/
def SameBut (is : List Nat) (σ σ' : St) : Prop := σ'.length = σ.length ∧ ∀ k, k ∉ is → σ'[k]? = σ[k]?
def Tg (F : Fx) (g : TG) (is : List Nat) (d : Dt) (ρ ρ' : Ro) : Prop := ∀ O σ H v, Rel F O H σ ρ → Rp F.K F.cl (hide O H) v d → ∀ Q : St → Hp → Prop, (∀ σ', SameBut is σ σ' → Rel F O H σ' ρ' → Q σ' H) → g v σ H Q
def Tgs (F : Fx) (g : TGs) (is : List Nat) (ds : List Dt) (ρ ρ' : Ro) : Prop := ∀ O σ H vs, Rel F O H σ ρ → RpA F.K F.cl (hide O H) vs ds → ∀ Q : St → Hp → Prop, (∀ σ', SameBut is σ σ' → Rel F O H σ' ρ' → Q σ' H) → g vs σ H Q
theorem tg_name {i : Nat} : Tg F (gName i) [i] d ρ (ρ.set i (.im d)) := fun O σ H v R r Q q =>
  q _ ⟨List.length_set, fun k hk => List.getElem?_set_ne (fun e => hk (by rw [e]; exact List.mem_singleton.mpr rfl))⟩ (R.set r i)
theorem tgs_nil : Tgs F gNil [] [] ρ ρ := fun O σ H vs R r Q q => ⟨r.nil_inv, q σ ⟨rfl, fun _ _ => rfl⟩ R⟩
theorem tgs_cons {g : TG} {gs : TGs} {is js : List Nat} {ds : List Dt} (h1 : Tg F g is d ρ ρ1) (h2 : Tgs F gs js ds ρ1 ρ2) : Tgs F (gCons g gs) (is ++ js) (d :: ds) ρ ρ2 := fun O σ H vs R r Q q => by
  obtain ⟨v, w, e, r1, r2⟩ := r.cons_inv
  refine ⟨v, w, e, h1 O σ H v R r1 _ fun σ1 s1 R1 => h2 O σ1 H w R1 r2 _ fun σ2 s2 R2 => q σ2 ⟨s2.1.trans s1.1, fun k hk => ?_⟩ R2⟩
  rw [s2.2 k (fun z => hk (List.mem_append.mpr (.inr z))), s1.2 k (fun z => hk (List.mem_append.mpr (.inl z)))]
theorem tg_tup {gs : TGs} {is : List Nat} {ds : List Dt} {n : Nat} (hn : ds.length = n) (h : Tgs F gs is ds ρ ρ1) : Tg F (gTup F.K n gs) is (.tup ds) ρ ρ1 := fun O σ H v R r Q q => by
  cases r with
  | tup hs ha => exact ⟨_, _, rfl, SqT.of (hide_ex O H _ _ hs), by rw [ha.length, hn], h O σ H _ R ha Q q⟩

/-! ### statements -/
structure Pd where
  nx : Ro → Prop := fun _ => False
  rt : Dt → Ro → Prop
  bk : Ro → Prop := fun _ => False
  ct : Ro → Prop := fun _ => False
def Vs (O : Addr → Bool) (H : Hp) (O' : Addr → Bool) (H' : Hp) : Prop := Ex (hide O H) (hide O' H')
theorem Vs.refl (O : Addr → Bool) (H : Hp) : Vs O H O H := Ex.refl _
theorem Vs.trans {O1 O2 : Addr → Bool} {H1 H2 : Hp} (a : Vs O H O1 H1) (b : Vs O1 H1 O2 H2) : Vs O H O2 H2 := Ex.trans a b
theorem Vk.vs (l : Le O' O) (k : Vk O H H') : Vs O H O' H' := k.hid l
def Wp (F : Fx) (t : TS) (ρ : Ro) (Φ : Pd) : Prop := ∀ O σ H (D : Ends), Rel F O H σ ρ →
  (∀ O' σ' H' ρ', Φ.nx ρ' → Vs O H O' H' → Rel F O' H' σ' ρ' → D.nx σ' H') →
  (∀ O' σ' H' ρ' d v, Φ.rt d ρ' → Vs O H O' H' → Rel F O' H' σ' ρ' → Rp F.K F.cl (hide O' H') v d → D.rt v H') →
  (∀ O' σ' H' ρ', Φ.bk ρ' → Vs O H O' H' → Rel F O' H' σ' ρ' → D.bk σ' H') →
  (∀ O' σ' H' ρ', Φ.ct ρ' → Vs O H O' H' → Rel F O' H' σ' ρ' → D.ct σ' H') → t D σ H
variable {t u tb : TS} {te ta : TE} {tt : TT} {g : TG} {is : List Nat} {Φ Ψ : Pd} {b : Bool}
theorem wp_next (h : Φ.nx ρ) : Wp F tNext ρ Φ := fun O σ H D R n _ _ _ => n O σ H ρ h (Vs.refl O H) R
theorem wp_brk (h : Φ.bk ρ) : Wp F tBreak ρ Φ := fun O σ H D R _ _ n _ => n O σ H ρ h (Vs.refl O H) R
theorem wp_cont (h : Φ.ct ρ) : Wp F tCont ρ Φ := fun O σ H D R _ _ _ n => n O σ H ρ h (Vs.refl O H) R
theorem wp_seq (h : Wp F t ρ ⟨fun ρ1 => Wp F u ρ1 Φ, Φ.rt, Φ.bk, Φ.ct⟩) : Wp F (tSeq t u) ρ Φ := fun O σ H D R n r b c =>
  h O σ H { D with nx := u D } R (fun O1 σ1 H1 ρ1 w v1 R1 => w O1 σ1 H1 D R1 (fun O2 σ2 H2 ρ2 x v2 R2 => n O2 σ2 H2 ρ2 x (v1.trans v2) R2) (fun O2 σ2 H2 ρ2 d v x v2 R2 => r O2 σ2 H2 ρ2 d v x (v1.trans v2) R2)
    (fun O2 σ2 H2 ρ2 x v2 R2 => b O2 σ2 H2 ρ2 x (v1.trans v2) R2) (fun O2 σ2 H2 ρ2 x v2 R2 => c O2 σ2 H2 ρ2 x (v1.trans v2) R2)) r b c
theorem wp_mono (h : Wp F t ρ Ψ) (hn : ∀ ρ, Ψ.nx ρ → Φ.nx ρ) (hr : ∀ d ρ, Ψ.rt d ρ → Φ.rt d ρ) (hb : ∀ ρ, Ψ.bk ρ → Φ.bk ρ) (hc : ∀ ρ, Ψ.ct ρ → Φ.ct ρ) : Wp F t ρ Φ := fun O σ H D R n r b c =>
  h O σ H D R (fun O1 σ1 H1 ρ1 x => n O1 σ1 H1 ρ1 (hn _ x)) (fun O1 σ1 H1 ρ1 d v x => r O1 σ1 H1 ρ1 d v (hr _ _ x)) (fun O1 σ1 H1 ρ1 x => b O1 σ1 H1 ρ1 (hb _ x)) (fun O1 σ1 H1 ρ1 x => c O1 σ1 H1 ρ1 (hc _ x))
theorem wp_asg (h : Ev F te ρ d ρ1) (hg : Tg F g is d ρ1 ρ2) (k : Φ.nx ρ2) : Wp F (tAsg te g) ρ Φ := fun O σ H D R n _ _ _ =>
  h O σ H R _ fun v O1 H1 l kk R1 r => hg O1 σ H1 v R1 r _ fun σ2 _ R2 => n O1 σ2 H1 ρ2 k (kk.vs l) R2
theorem wp_set {i : Nat} (h : Ev F te ρ d ρ1) (k : Φ.nx (ρ1.set i (.im d))) : Wp F (tAsg te (gName i)) ρ Φ := wp_asg h tg_name k
theorem wp_ret (h : Ev F te ρ d ρ1) (k : Φ.rt d ρ1) : Wp F (tRet te) ρ Φ := fun O σ H D R _ n _ _ =>
  h O σ H R _ fun v O1 H1 l kk R1 r => n O1 σ H1 ρ1 d v k (kk.vs l) R1 r
theorem wp_retN (k : Φ.rt .non ρ) : Wp F tRetN ρ Φ := fun O σ H D R _ n _ _ => n O σ H ρ .non .non k (Vs.refl O H) R .non
theorem wp_drop (h : Ev F te ρ d ρ1) (k : Φ.nx ρ1) : Wp F (tDrop te) ρ Φ := fun O σ H D R n _ _ _ => h O σ H R _ fun v O1 H1 l kk R1 r => n O1 σ H1 ρ1 k (kk.vs l) R1
theorem wp_never (h : False) : Wp F t ρ Φ := h.elim
theorem wp_if (h : EvT F tt ρ b ρ1) (h1 : b = true → Wp F t ρ1 Φ) (h2 : b = false → Wp F u ρ1 Φ) : Wp F (tIfS tt t u) ρ Φ := fun O σ H D R n r bb c => h O σ H R _ fun O1 H1 l k R1 => by
  have go : ∀ w : TS, Wp F w ρ1 Φ → w D σ H1 := fun w hw => hw O1 σ H1 D R1 (fun O2 σ2 H2 ρ2 x v2 R2 => n O2 σ2 H2 ρ2 x ((k.vs l).trans v2) R2) (fun O2 σ2 H2 ρ2 d v x v2 R2 => r O2 σ2 H2 ρ2 d v x ((k.vs l).trans v2) R2)
    (fun O2 σ2 H2 ρ2 x v2 R2 => bb O2 σ2 H2 ρ2 x ((k.vs l).trans v2) R2) (fun O2 σ2 H2 ρ2 x v2 R2 => c O2 σ2 H2 ρ2 x ((k.vs l).trans v2) R2)
  cases b with
  | true => exact go t (h1 rfl)
  | false => exact go u (h2 rfl)
/-- a test that is true, one that is false -/
theorem wp_yes (h : EvT F tt ρ true ρ1) (h1 : Wp F t ρ1 Φ) : Wp F (tIfS tt t u) ρ Φ := wp_if h (fun _ => h1) fun e => by cases e
theorem wp_no (h : EvT F tt ρ false ρ1) (h1 : Wp F u ρ1 Φ) : Wp F (tIfS tt t u) ρ Φ := wp_if h (fun e => by cases e) fun _ => h1

/-! ### what is walked -/
def ItN (F : Fx) (J : It) (O : Addr → Bool) (H : Hp) (items : List Dt) : Prop :=
  (∀ (i : Nat) (d : Dt), items[i]? = some d → J.go i H ∧ ∀ x H', J.yld i H x H' → Ex H H' ∧ Rp F.K F.cl (hide O H') x d) ∧ J.stop items.length H
/-- J gives the items wherever what was seen stands, and the slots are as Sx says -/
def ItD (F : Fx) (J : It) (O0 : Addr → Bool) (H0 : Hp) (Sx : Ro → Prop) (items : List Dt) : Prop := ∀ (F2 : Fx) O H σ ρ, F2.K = F.K → F2.cl = F.cl → Vs O0 H0 O H → Rel F2 O H σ ρ → Sx ρ → ItN F J O H items
def EvS (F : Fx) (wi : TI) (ρ : Ro) (items : List Dt) (ρ' : Ro) (Sx : Ro → Prop) : Prop := ∀ O σ H, Rel F O H σ ρ → ∀ R : It → Hp → Prop, (∀ J O' H', Le O' O → Vk O H H' → Rel F O' H' σ ρ' → ItD F J O' H' Sx items → R J H') → wi σ H R
abbrev EvI (F : Fx) (wi : TI) (ρ : Ro) (items : List Dt) (ρ' : Ro) : Prop := EvS F wi ρ items ρ' fun _ => True
theorem ei_list {ds : List Dt} (h : Ev F te ρ (.lst ds) ρ1) : EvI F (iList F.K te) ρ ds ρ1 := fun O σ H R Q q => h O σ H R _ fun v O1 H1 l k R1 r => by
  cases r with
  | lst hs ha =>
    refine ⟨_, rfl, ⟨_, ex_l (hide_ex _ _) hs⟩, q _ O1 H1 l k R1 fun F2 O2 H2 σ2 ρ2 _ _ vs _ _ => ⟨fun i d hi => ?_, ⟨_, ex_l (hide_ex _ _) (ex_l vs hs), by rw [ha.length]; exact Nat.le_refl _⟩⟩⟩
    obtain ⟨v, hv, rv⟩ := ha.get hi
    refine ⟨⟨_, v, ex_l (hide_ex _ _) (ex_l vs hs), hv⟩, fun x H' hy => ?_⟩
    obtain ⟨e, fy⟩ := hy
    subst e
    have ex : x = v := Option.some.inj ((fy _ (ex_l (hide_ex _ _) (ex_l vs hs))).symm.trans hv)
    subst ex
    exact ⟨Ex.refl _, rv.mono vs⟩
theorem ei_tup {ds : List Dt} (h : Ev F te ρ (.tup ds) ρ1) : EvI F (iTup F.K te) ρ ds ρ1 := fun O σ H R Q q => h O σ H R _ fun v O1 H1 l k R1 r => by
  cases r with
  | tup hs ha =>
    have hs : SqT F.K (hide O1 H1) _ _ := SqT.of hs
    refine ⟨_, rfl, ⟨_, ex_t (hide_ex _ _) hs⟩, q _ O1 H1 l k R1 fun F2 O2 H2 σ2 ρ2 _ _ vs _ _ => ⟨fun i d hi => ?_, ⟨_, ex_t (hide_ex _ _) (ex_t vs hs), by rw [ha.length]; exact Nat.le_refl _⟩⟩⟩
    obtain ⟨v, hv, rv⟩ := ha.get hi
    refine ⟨⟨_, v, ex_t (hide_ex _ _) (ex_t vs hs), hv⟩, fun x H' hy => ?_⟩
    obtain ⟨e, fy⟩ := hy
    subst e
    have ex : x = v := Option.some.inj ((fy _ (ex_t (hide_ex _ _) (ex_t vs hs))).symm.trans hv)
    subst ex
    exact ⟨Ex.refl _, rv.mono vs⟩
theorem ei_rng {ta : TA} {n : Nat} (h : EvA F ta ρ [.int (n : Int)] ρ1) (hn : n < 100000) : EvI F (iRng1 ta) ρ ((List.range n).map fun i => .int (i : Nat)) ρ1 := fun O σ H R Q q => h O σ H R _ fun vs O1 H1 l k R1 r => by
  obtain ⟨v, w, e, r1, r2⟩ := r.cons_inv
  rw [r2.nil_inv] at e
  subst e
  cases r1
  refine ⟨_, rfl, by omega, by omega, q _ O1 H1 l k R1 fun F2 O2 H2 σ2 ρ2 _ _ vs _ _ => ⟨fun i d hi => ?_, ?_⟩⟩
  · rw [List.getElem?_map] at hi
    have hlt : i < n := by
      by_cases z : i < n
      · exact z
      · rw [List.getElem?_eq_none (by rw [List.length_range]; omega)] at hi
        cases hi
    rw [List.getElem?_range hlt] at hi
    cases hi
    refine ⟨by show i < ((n : Nat) : Int).toNat; omega, fun x H' hy => ?_⟩
    obtain ⟨e, ex⟩ := hy
    subst e ex
    refine ⟨Ex.refl _, ?_⟩
    show Rp F.K F.cl _ (.int ((0 : Int) + (i : Int))) _
    rw [Int.zero_add]
    exact .int _
  · rw [List.length_map, List.length_range]
    show ((n : Nat) : Int).toNat ≤ n
    omega
theorem ei_str {x : Str} (h : Ev F te ρ (.str x) ρ1) : EvI F (iStr te) ρ (x.cps.toList.map fun c => .str ⟨#[c]⟩) ρ1 := fun O σ H R Q q => h O σ H R _ fun v O1 H1 l k R1 r => by
  cases r
  refine ⟨x, rfl, q _ O1 H1 l k R1 fun F2 O2 H2 σ2 ρ2 _ _ vs _ _ => ⟨fun i d hi => ?_, ?_⟩⟩
  · rw [List.getElem?_map] at hi
    cases e : x.cps.toList[i]? with
    | none =>
      rw [e] at hi
      cases hi
    | some c =>
      rw [e] at hi
      cases hi
      rw [Array.getElem?_toList] at e
      have hlt : i < x.cps.size := by
        by_cases z : i < x.cps.size
        · exact z
        · rw [Array.getElem?_eq_none (by omega)] at e
          cases e
      refine ⟨hlt, fun y H' hy => ?_⟩
      obtain ⟨e1, c', e2, e3⟩ := hy
      subst e1 e3
      rw [e] at e2
      cases e2
      exact ⟨Ex.refl _, .str _⟩
  · rw [List.length_map, Array.length_toList]
    exact Nat.le_refl _

/-! ### for -/
theorem wp_forS {wi : TI} {items : List Dt} {Sx : Ro → Prop} (hi : EvS F wi ρ items ρ1 Sx) (I : Nat → Ro → Prop) (h0 : I 0 ρ1) (hS : ∀ i ρ', I i ρ' → Sx ρ')
    (hs : ∀ (i : Nat) (d : Dt) (ρ' : Ro), items[i]? = some d → I i ρ' → ∃ js ρ2, Tg F g js d ρ' ρ2 ∧ Wp F tb ρ2 ⟨I (i + 1), Φ.rt, Φ.nx, I (i + 1)⟩) (hd : ∀ ρ', I items.length ρ' → Φ.nx ρ') : Wp F (tFor wi g tb) ρ Φ := fun O σ H D R n r b c =>
  hi O σ H R _ fun J O1 H1 l k R1 HJ => by
    refine ⟨fun i m σ' H' => m = items.length - i ∧ i ≤ items.length ∧ ∃ O2 ρ', I i ρ' ∧ Vs O1 H1 O2 H' ∧ Rel F O2 H' σ' ρ', ⟨_, rfl, Nat.zero_le _, O1, ρ1, h0, Vs.refl _ _, R1⟩, ?_⟩
    rintro i m σ2 H2 ⟨rfl, hle, O2, ρ2, hI, vs, R2⟩
    have v0 : Vs O H O2 H2 := (k.vs l).trans vs
    obtain ⟨g1, g2⟩ := HJ F O2 H2 σ2 ρ2 rfl rfl vs R2 (hS i ρ2 hI)
    by_cases hlt : i < items.length
    · obtain ⟨go, yl⟩ := g1 i _ (List.getElem?_eq_getElem hlt)
      obtain ⟨js, ρ3, hT, hW⟩ := hs i _ ρ2 (List.getElem?_eq_getElem hlt) hI
      refine .inr ⟨go, fun σ' H' => ∃ O3 ρ', I (i + 1) ρ' ∧ Vs O1 H1 O3 H' ∧ Rel F O3 H' σ' ρ', fun σ' H' hN => ?_, fun x H' hy => ?_⟩
      · obtain ⟨O3, ρ', z⟩ := hN
        exact ⟨items.length - (i + 1), by omega, rfl, hlt, O3, ρ', z⟩
      · obtain ⟨ex, rx⟩ := yl x H' hy
        have v1 : Vs O2 H2 O2 H' := hide_exx O2 ex
        refine hT O2 σ2 H' x (R2.ex ex) rx _ fun σ3 _ R3 => ?_
        exact hW O2 σ3 H' { D with nx := _, ct := _, bk := D.nx } R3 (fun O4 σ4 H4 ρ4 x4 v4 R4 => ⟨O4, ρ4, x4, (vs.trans v1).trans v4, R4⟩) (fun O4 σ4 H4 ρ4 d4 w4 x4 v4 R4 => r O4 σ4 H4 ρ4 d4 w4 x4 ((v0.trans v1).trans v4) R4)
          (fun O4 σ4 H4 ρ4 x4 v4 R4 => n O4 σ4 H4 ρ4 x4 ((v0.trans v1).trans v4) R4) (fun O4 σ4 H4 ρ4 x4 v4 R4 => ⟨O4, ρ4, x4, (vs.trans v1).trans v4, R4⟩)
    · have e : i = items.length := by omega
      subst e
      exact .inl ⟨g2, n O2 σ2 H2 ρ2 (hd ρ2 hI) v0 R2⟩
theorem wp_for {wi : TI} {items : List Dt} (hi : EvI F wi ρ items ρ1) (I : Nat → Ro → Prop) (h0 : I 0 ρ1)
    (hs : ∀ (i : Nat) (d : Dt) (ρ' : Ro), items[i]? = some d → I i ρ' → ∃ js ρ2, Tg F g js d ρ' ρ2 ∧ Wp F tb ρ2 ⟨I (i + 1), Φ.rt, Φ.nx, I (i + 1)⟩) (hd : ∀ ρ', I items.length ρ' → Φ.nx ρ') : Wp F (tFor wi g tb) ρ Φ :=
  wp_forS hi I h0 (fun _ _ _ => trivial) hs hd
theorem wp_while {t : TT} (I : Nat → Ro → Prop) (m0 : Nat) (h0 : I m0 ρ)
    (hs : ∀ m ρ', I m ρ' → ∃ b ρ1, EvT F t ρ' b ρ1 ∧ (b = true → Wp F tb ρ1 ⟨fun ρ2 => ∃ m', m' < m ∧ I m' ρ2, Φ.rt, Φ.nx, fun ρ2 => ∃ m', m' < m ∧ I m' ρ2⟩) ∧ (b = false → Φ.nx ρ1)) : Wp F (tWhile t tb) ρ Φ := fun O σ H D R n r b c => by
  refine ⟨fun m σ' H' => ∃ O2 ρ', I m ρ' ∧ Vs O H O2 H' ∧ Rel F O2 H' σ' ρ', ⟨m0, O, ρ, h0, Vs.refl _ _, R⟩, ?_⟩
  rintro m σ2 H2 ⟨O2, ρ2, hI, vs, R2⟩
  obtain ⟨b, ρ3, hT, h1, h2⟩ := hs m ρ2 hI
  refine hT O2 σ2 H2 R2 _ fun O3 H3 l3 k3 R3 => ?_
  have v3 : Vs O H O3 H3 := vs.trans (k3.vs l3)
  cases b with
  | true =>
    refine ⟨fun σ' H' => ∃ m', m' < m ∧ ∃ O2 ρ', I m' ρ' ∧ Vs O H O2 H' ∧ Rel F O2 H' σ' ρ', fun σ' H' hN => hN, ?_⟩
    exact h1 rfl O3 σ2 H3 { D with nx := _, ct := _, bk := D.nx } R3 (fun O4 σ4 H4 ρ4 ⟨m', hm, x4⟩ v4 R4 => ⟨m', hm, O4, ρ4, x4, v3.trans v4, R4⟩) (fun O4 σ4 H4 ρ4 d4 w4 x4 v4 R4 => r O4 σ4 H4 ρ4 d4 w4 x4 (v3.trans v4) R4)
      (fun O4 σ4 H4 ρ4 x4 v4 R4 => n O4 σ4 H4 ρ4 x4 (v3.trans v4) R4) (fun O4 σ4 H4 ρ4 ⟨m', hm, x4⟩ v4 R4 => ⟨m', hm, O4, ρ4, x4, v3.trans v4, R4⟩)
  | false => exact n O3 σ2 H3 ρ3 (h2 rfl) v3 R3
end
end Md
namespace Md
open PySem L2
open Evl (Ex ex_l ex_t sz_of sz_lt fresh_back)
section
variable {F : Fx} {O O' : Addr → Bool} {H H' : Hp} {σ σ' : St} {ρ ρ' ρ1 ρ2 ρ3 : Ro} {d d1 d2 : Dt} {v : V} {m m' : Mo}
variable {t u tb : TS} {te ta td ty tv : TE} {tt : TT} {g : TG} {is : List Nat} {Φ Ψ : Pd} {b : Bool}
/-! ### objects of the def's own -/
def plus (O : Addr → Bool) (p : Addr) : Addr → Bool := fun a => O a || decide (a = p)
def less (O : Addr → Bool) (p : Addr) : Addr → Bool := fun a => O a && !decide (a = p)
theorem plus_at {p a : Addr} : plus O p a = true ↔ O a = true ∨ a = p := by simp [plus]
theorem plus_no {p a : Addr} : plus O p a = false ↔ O a = false ∧ a ≠ p := by simp [plus]
theorem less_at {p a : Addr} : less O p a = true ↔ O a = true ∧ a ≠ p := by simp [less]
theorem less_no {p a : Addr} : less O p a = false ↔ O a = false ∨ a = p := by
  unfold less
  cases O a <;> simp
/-- a new hidden object hides nothing that was seen -/
theorem Vs.plus {p : Addr} {o : HO} (hp : H p = none) : Vs O H (plus O p) (upd H p o) := fun a u h => by
  obtain ⟨h1, h2⟩ := hide_at.mp h
  have ne : a ≠ p := ne_of_none h2 hp
  exact hide_at.mpr ⟨plus_no.mpr ⟨h1, ne⟩, by rw [upd_ne ne]; exact h2⟩
theorem Vs.less {p : Addr} : Vs O H (Md.less O p) H := fun a u h => by
  obtain ⟨h1, h2⟩ := hide_at.mp h
  exact hide_at.mpr ⟨less_no.mpr (.inl h1), h2⟩
/-- a hidden object is written: what is seen stays -/
theorem Vs.wr {p : Addr} {o : HO} (hp : O p = true) : Vs O H O (upd H p o) := fun a u h => by
  obtain ⟨h1, h2⟩ := hide_at.mp h
  have ne : a ≠ p := fun e => by
    rw [e, hp] at h1
    cases h1
  exact hide_at.mpr ⟨h1, by rw [upd_ne ne]; exact h2⟩
theorem Vk.of_vs (v : Vs O H O H') : Vk O H H' := fun a o n h => (hide_at.mp (v a o (hide_at.mpr ⟨n, h⟩))).2
/-- a new object stands at p, in slot i -/
theorem Rel.own (R : Rel F O H σ ρ) {p : Addr} {o : HO} (hp : H p = none) (hm : MoOk F.K F.cl (hide O H) p (some o) m) (i : Nat) : Rel F (plus O p) (upd H p o) (σ.set i (some (.ref p))) (ρ.set i (.ow m)) where
  len := by rw [List.length_set, List.length_set, R.len]
  sub := fun a h => plus_at.mpr (.inl (R.sub a h))
  al := fun a h => by
    by_cases e : a = p
    · rw [e, upd_same]
      exact MoOk.noTup hm
    · rw [upd_ne e]
      exact R.al a ((plus_at.mp h).resolve_right e)
  mb := R.mb
  fr := fun a h hb => by
    rcases plus_at.mp h with h | h
    · exact R.fr a h hb
    · rw [h]
      exact R.new0 hp
  kp := fun a o h n => by
    have ne : a ≠ p := fun e => by
      rw [e, R.new0 hp] at h
      cases h
    rw [upd_ne ne]
    exact R.kp a o h n
  im := fun j e h => by
    rcases set_cases h with ⟨q, z⟩ | ⟨q, z⟩
    · cases z
    · obtain ⟨w, h1, h2⟩ := R.im j e z
      exact ⟨w, by rw [List.getElem?_set_ne q]; exact h1, h2.mono (Vs.plus hp)⟩
  ow := fun j m' h => by
    rcases set_cases h with ⟨q, z⟩ | ⟨q, z⟩
    · cases z
      subst q
      have hl := set_lt h
      exact ⟨p, by rw [List.getElem?_set_self (by rw [R.len]; exact hl)], plus_at.mpr (.inr rfl), R.newB hp, by rw [upd_same]; exact hm.mono (Vs.plus hp)⟩
    · obtain ⟨a, h1, h2, h3, h4⟩ := R.ow j m' z
      have ne : a ≠ p := fun e => (R.al a h2).1 (by rw [e]; exact hp)
      exact ⟨a, by rw [List.getElem?_set_ne q]; exact h1, plus_at.mpr (.inl h2), h3, by rw [upd_ne ne]; exact h4.mono (Vs.plus hp)⟩
  pm := fun j s h => by
    rcases set_cases h with ⟨q, z⟩ | ⟨q, z⟩
    · cases z
    · obtain ⟨a, h1, h2, h3⟩ := R.pm j s z
      have ne : a ≠ p := ne_of_none h3 hp
      exact ⟨a, h1, by rw [List.getElem?_set_ne q]; exact h2, by rw [upd_ne ne]; exact h3⟩
  sep := fun j k m1 m2 a hj hk h1 h2 => by
    rcases set_cases hj with ⟨q, z⟩ | ⟨q, z⟩ <;> rcases set_cases hk with ⟨q', z'⟩ | ⟨q', z'⟩
    · rw [← q, ← q']
    · exfalso
      subst q
      have hl := set_lt hj
      rw [List.getElem?_set_self (by rw [R.len]; exact hl)] at h1
      rw [List.getElem?_set_ne q'] at h2
      obtain ⟨a', x1, x2, _⟩ := R.ow k m2 z'
      rw [h2] at x1
      cases x1
      cases h1
      exact (R.al _ x2).1 hp
    · exfalso
      subst q'
      have hl := set_lt hk
      rw [List.getElem?_set_self (by rw [R.len]; exact hl)] at h2
      rw [List.getElem?_set_ne q] at h1
      obtain ⟨a', x1, x2, _⟩ := R.ow j m1 z
      rw [h1] at x1
      cases x1
      cases h2
      exact (R.al _ x2).1 hp
    · rw [List.getElem?_set_ne q] at h1
      rw [List.getElem?_set_ne q'] at h2
      exact R.sep j k m1 m2 a z z' h1 h2
/-- the own object of slot i is written -/
theorem Rel.wr (R : Rel F O H σ ρ) {i : Nat} {p : Addr} {o : HO} (hi : ρ[i]? = some (.ow m)) (hs : σ[i]? = some (some (.ref p))) (hm : MoOk F.K F.cl (hide O H) p (some o) m') : Rel F O (upd H p o) σ (ρ.set i (.ow m')) := by
  obtain ⟨a, a1, a2, a3, a4⟩ := R.ow i m hi
  have ea : a = p := by
    rw [hs] at a1
    exact (V.ref.inj (Option.some.inj (Option.some.inj a1))).symm
  subst ea
  have hil : i < ρ.length := (List.getElem?_eq_some_iff.mp hi).1
  have vw : Vs O H O (upd H a o) := Vs.wr a2
  exact {
    len := by rw [List.length_set, R.len]
    sub := R.sub
    al := fun x h => by
      by_cases e : x = a
      · rw [e, upd_same]
        exact MoOk.noTup hm
      · rw [upd_ne e]
        exact R.al x h
    mb := R.mb
    fr := R.fr
    kp := fun x u h n => by
      have ne : x ≠ a := fun e => by
        rw [e, R.fr a a2 a3] at h
        cases h
      rw [upd_ne ne]
      exact R.kp x u h n
    im := fun j e h => by
      rcases set_cases h with ⟨q, z⟩ | ⟨q, z⟩
      · cases z
      · obtain ⟨w, h1, h2⟩ := R.im j e z
        exact ⟨w, h1, h2.mono vw⟩
    ow := fun j m1 h => by
      rcases set_cases h with ⟨q, z⟩ | ⟨q, z⟩
      · cases z
        subst q
        exact ⟨a, hs, a2, a3, by rw [upd_same]; exact hm.mono vw⟩
      · obtain ⟨x, h1, h2, h3, h4⟩ := R.ow j m1 z
        have ne : x ≠ a := fun e => q (R.sep i j m m1 a hi z hs (by rw [h1, e]))
        exact ⟨x, h1, h2, h3, by rw [upd_ne ne]; exact h4.mono vw⟩
    pm := fun j s h => by
      rcases set_cases h with ⟨q, z⟩ | ⟨q, z⟩
      · cases z
      · obtain ⟨x, h1, h2, h3⟩ := R.pm j s z
        have ne : x ≠ a := fun e => by
          have := R.mb x h1
          rw [e, a3] at this
          cases this
        exact ⟨x, h1, h2, by rw [upd_ne ne]; exact h3⟩
    sep := fun j k m1 m2 x hj hk h1 h2 => by
      have g : ∀ {j : Nat} {m1 : Mo}, (ρ.set i (.ow m'))[j]? = some (.ow m1) → ∃ m2, ρ[j]? = some (.ow m2) := fun {j m1} h => by
        rcases set_cases h with ⟨q, z⟩ | ⟨q, z⟩
        · rw [← q]
          exact ⟨m, hi⟩
        · exact ⟨m1, z⟩
      obtain ⟨n1, y1⟩ := g hj
      obtain ⟨n2, y2⟩ := g hk
      exact R.sep j k n1 n2 x y1 y2 h1 h2 }
/-- the caller's list is written -/
theorem Rel.wrp (R : Rel F O H σ ρ) {i : Nat} {p : Addr} {s s' : Int} (hi : ρ[i]? = some (.pm s)) (hs : σ[i]? = some (some (.ref p))) (one : ∀ j s, ρ[j]? = some (.pm s) → j = i) : F.M = some p ∧ Rel F O (upd H p (.lst [.int s'])) σ (ρ.set i (.pm s')) := by
  obtain ⟨a, a1, a2, a3⟩ := R.pm i s hi
  have ea : a = p := by
    rw [hs] at a2
    exact (V.ref.inj (Option.some.inj (Option.some.inj a2))).symm
  subst ea
  have hB := R.mb a a1
  have vw : Vs O H O (upd H a (.lst [.int s'])) := Vs.wr (R.sub a hB)
  refine ⟨a1, {
    len := by rw [List.length_set, R.len]
    sub := R.sub
    al := fun x h => by
      by_cases e : x = a
      · rw [e, upd_same]
        exact ⟨(fun z => by cases z), fun _ z => by cases z⟩
      · rw [upd_ne e]
        exact R.al x h
    mb := R.mb
    fr := R.fr
    kp := fun x u h n => by
      have ne : x ≠ a := fun e => n (by rw [e]; exact a1)
      rw [upd_ne ne]
      exact R.kp x u h n
    im := fun j e h => by
      rcases set_cases h with ⟨q, z⟩ | ⟨q, z⟩
      · cases z
      · obtain ⟨w, h1, h2⟩ := R.im j e z
        exact ⟨w, h1, h2.mono vw⟩
    ow := fun j m1 h => by
      rcases set_cases h with ⟨q, z⟩ | ⟨q, z⟩
      · cases z
      · obtain ⟨x, h1, h2, h3, h4⟩ := R.ow j m1 z
        have ne : x ≠ a := fun e => by
          rw [e, hB] at h3
          cases h3
        exact ⟨x, h1, h2, h3, by rw [upd_ne ne]; exact h4.mono vw⟩
    pm := fun j s2 h => by
      rcases set_cases h with ⟨q, z⟩ | ⟨q, z⟩
      · cases z
        subst q
        exact ⟨a, a1, hs, upd_same⟩
      · exact absurd (one j s2 z).symm q
    sep := fun j k m1 m2 x hj hk h1 h2 => by
      rcases set_cases hj with ⟨q, z⟩ | ⟨q, z⟩
      · cases z
      rcases set_cases hk with ⟨q', z'⟩ | ⟨q', z'⟩
      · cases z'
      exact R.sep j k m1 m2 x z z' h1 h2 }⟩
/-- the own list of slot i becomes a datum -/
theorem Rel.freeze (R : Rel F O H σ ρ) {i : Nat} {p : Addr} {xs : List Dt} (hi : ρ[i]? = some (.ow (.ls xs))) (hs : σ[i]? = some (some (.ref p))) : Rel F (less O p) H σ (ρ.set i (.im (.lst xs))) ∧ Rp F.K F.cl (hide (less O p) H) (.ref p) (.lst xs) := by
  obtain ⟨a, a1, a2, a3, vs, a4, a5⟩ := R.ow i _ hi
  have ea : a = p := by
    rw [hs] at a1
    exact (V.ref.inj (Option.some.inj (Option.some.inj a1))).symm
  subst ea
  have vl : Vs O H (Md.less O a) H := Vs.less
  have me : Rp F.K F.cl (hide (Md.less O a) H) (.ref a) (.lst xs) := .lst (.inl (.inl (hide_at.mpr ⟨less_no.mpr (.inr rfl), a4⟩))) (a5.mono vl)
  refine ⟨{
    len := by rw [List.length_set, R.len]
    sub := fun x h => less_at.mpr ⟨R.sub x h, fun e => by
      rw [e, a3] at h
      cases h⟩
    al := fun x h => R.al x (less_at.mp h).1
    mb := R.mb
    fr := fun x h hb => R.fr x (less_at.mp h).1 hb
    kp := R.kp
    im := fun j e h => by
      rcases set_cases h with ⟨q, z⟩ | ⟨q, z⟩
      · cases z
        subst q
        exact ⟨_, hs, me⟩
      · obtain ⟨w, h1, h2⟩ := R.im j e z
        exact ⟨w, h1, h2.mono vl⟩
    ow := fun j m1 h => by
      rcases set_cases h with ⟨q, z⟩ | ⟨q, z⟩
      · cases z
      · obtain ⟨x, h1, h2, h3, h4⟩ := R.ow j m1 z
        have ne : x ≠ a := fun e => q (R.sep i j _ m1 a hi z hs (by rw [h1, e]))
        exact ⟨x, h1, less_at.mpr ⟨h2, ne⟩, h3, h4.mono vl⟩
    pm := fun j s h => by
      rcases set_cases h with ⟨q, z⟩ | ⟨q, z⟩
      · cases z
      · exact R.pm j s z
    sep := fun j k m1 m2 x hj hk h1 h2 => by
      rcases set_cases hj with ⟨q, z⟩ | ⟨q, z⟩
      · cases z
      rcases set_cases hk with ⟨q', z'⟩ | ⟨q', z'⟩
      · cases z'
      exact R.sep j k m1 m2 x z z' h1 h2 }, me⟩
theorem ev_freeze {i : Nat} {xs : List Dt} (h : ρ[i]? = some (.ow (.ls xs))) : Ev F (tVar i) ρ (.lst xs) (ρ.set i (.im (.lst xs))) := fun O σ H R Q q => by
  obtain ⟨a, a1, _⟩ := R.ow i _ h
  obtain ⟨R', r⟩ := R.freeze h a1
  exact ⟨_, a1, q _ _ H (fun x hx => (less_at.mp hx).1) (Vk.refl O H) R' r⟩
/-! ### statements that make and change them -/
theorem wp_newL {i : Nat} {t : TA} {ds : List Dt} (h : EvA F t ρ ds ρ1) (hl : ds.length ≤ 100000) (k : Φ.nx (ρ1.set i (.ow (.ls ds)))) : Wp F (tAsg (tLst t) (gName i)) ρ Φ := fun O σ H D R n _ _ _ =>
  h O σ H R _ fun vs O1 H1 l kk R1 r => ⟨sz_of (by rw [r.length]; exact hl), fun p hp => n (plus O1 p) _ _ _ k ((kk.vs l).trans (Vs.plus hp)) (R1.own (m := .ls ds) (o := .lst vs) hp ⟨vs, rfl, r⟩ i)⟩
theorem wp_newDi {i : Nat} (k : Φ.nx (ρ.set i (.ow (.di [])))) : Wp F (tAsg tDNewK (gName i)) ρ Φ := fun O σ H D R n _ _ _ =>
  fun p hp => n (plus O p) _ _ _ k (Vs.plus hp) (R.own (m := .di []) (o := .dK []) hp ⟨[], rfl, .nil⟩ i)
theorem wp_newDt {i : Nat} (k : Φ.nx (ρ.set i (.ow (.dt [])))) : Wp F (tAsg tDNewT (gName i)) ρ Φ := fun O σ H D R n _ _ _ =>
  fun p hp => n (plus O p) _ _ _ k (Vs.plus hp) (R.own (m := .dt []) (o := .dT []) hp ⟨[], rfl, .nil⟩ i)
theorem wp_app {i : Nat} {xs : List Dt} (h : Ev F te ρ d ρ1) (hi : ρ[i]? = some (.ow (.ls xs))) (h1 : ρ1[i]? = some (.ow (.ls xs))) (hl : xs.length < 100000) (k : Φ.nx (ρ1.set i (.ow (.ls (xs ++ [d]))))) :
    Wp F (tDrop (tBM F.K "list" rAppend (tVar i) (tCons te tNil))) ρ Φ := fun O σ H D R n _ _ _ => by
  obtain ⟨a, a1, a2, a3, vs, a4, a5⟩ := R.ow i _ hi
  refine ⟨_, a1, .inl ⟨rfl, vs, .inl (.inl a4)⟩, ?_⟩
  refine h O σ H R _ fun v O1 H1 l kk R1 r => ?_
  obtain ⟨b, b1, b2, b3, ws, b4, b5⟩ := R1.ow i _ h1
  have e : b = a := by
    rw [a1] at b1
    exact (V.ref.inj (Option.some.inj (Option.some.inj b1))).symm
  subst e
  exact ⟨b, ws, v, rfl, rfl, b4, sz_lt (by rw [b5.length]; exact hl), n O1 σ _ _ k ((kk.vs l).trans (Vs.wr b2)) (R1.wr h1 b1 ⟨ws ++ [v], rfl, b5.append (.cons r .nil)⟩)⟩
theorem paired_snoc {α β : Type} {P : α → β → Prop} : ∀ {l : List α} {r : List β} {x : α} {y : β}, Paired P l r → P x y → Paired P (l ++ [x]) (r ++ [y])
  | _, _, _, _, .nil, h => .cons h .nil
  | _, _, _, _, .cons a t, h => .cons a (paired_snoc t h)
/-- d[k] = v over pairs with any keys -/
def putD {κ : Type} [DecidableEq κ] (kvs : List (κ × Dt)) (k : κ) (d : Dt) : List (κ × Dt) := if kvs.any fun kv => decide (kv.1 = k) then kvs.map fun kv => if kv.1 = k then (kv.1, d) else kv else kvs ++ [(k, d)]
theorem put_pair {κ κ' : Type} [DecidableEq κ] [DecidableEq κ'] {f : κ → κ'} (inj : ∀ a b, f a = f b → a = b) {P : V → Dt → Prop} {k : κ} {v : V} {d : Dt} (hd : P v d) {ws : List (κ' × V)} {kvs : List (κ × Dt)}
    (h : Paired (fun (p : κ' × V) (q : κ × Dt) => p.1 = f q.1 ∧ P p.2 q.2) ws kvs) : Paired (fun (p : κ' × V) (q : κ × Dt) => p.1 = f q.1 ∧ P p.2 q.2) (putK ws (f k) v) (putD kvs k d) := by
  have ha : (ws.any fun kv => decide (kv.1 = f k)) = kvs.any fun kv => decide (kv.1 = k) := by
    induction h with
    | nil => rfl
    | @cons p q l r x t ih =>
      rw [List.any_cons, List.any_cons, ih]
      have e : decide (p.1 = f k) = decide (q.1 = k) := by
        by_cases z : q.1 = k
        · rw [decide_eq_true z, decide_eq_true (by rw [x.1, z])]
        · rw [decide_eq_false z, decide_eq_false (fun y => z (inj _ _ (x.1.symm.trans y)))]
      rw [e]
  unfold putK putD
  rw [ha]
  split
  · clear ha
    rename_i hz
    clear hz
    induction h with
    | nil => exact .nil
    | @cons p q l r x t ih =>
      rw [List.map_cons, List.map_cons]
      refine .cons ?_ ih
      by_cases z : q.1 = k
      · rw [if_pos z, if_pos (by rw [x.1, z])]
        exact ⟨x.1, hd⟩
      · rw [if_neg z, if_neg (fun y => z (inj _ _ (x.1.symm.trans y)))]
        exact x
  · exact paired_snoc h ⟨rfl, hd⟩
theorem paired_len {α β : Type} {P : α → β → Prop} : ∀ {l : List α} {r : List β}, Paired P l r → l.length = r.length
  | _, _, .nil => rfl
  | _, _, .cons _ t => congrArg Nat.succ (paired_len t)
theorem wp_putI {i : Nat} {kvs : List (Int × Dt)} {k : Int} (h : Ev F tv ρ d ρ1) (hy : Ev F ty ρ1 (.int k) ρ2) (h2 : ρ2[i]? = some (.ow (.di kvs))) (h1 : ρ1[i]? = some (.ow (.di kvs))) (hl : kvs.length < 100000) (kk : Φ.nx (ρ2.set i (.ow (.di (putD kvs k d))))) :
    Wp F (sDPut (tVar i) ty tv) ρ Φ := fun O σ H D R n _ _ _ => by
  refine h O σ H R _ fun v O1 H1 l1 k1 R1 r1 => ?_
  obtain ⟨a, a1, _⟩ := R1.ow i _ h1
  refine ⟨_, a1, ?_⟩
  refine hy O1 σ H1 R1 _ fun y O2 H2 l2 k2 R2 r2 => ?_
  obtain ⟨b, b1, b2, b3, ws, b4, b5⟩ := R2.ow i _ h2
  have e : b = a := by
    rw [a1] at b1
    exact (V.ref.inj (Option.some.inj (Option.some.inj b1))).symm
  subst e
  cases r2
  refine ⟨b, _, rfl, DPut.k (k := Sum.inl k) b4 (sz_lt (by rw [paired_len b5]; exact hl)), n O2 σ _ _ kk (((k1.vs l1).trans (k2.vs l2)).trans (Vs.wr b2)) (R2.wr h2 b1 ⟨_, rfl, ?_⟩)⟩
  exact put_pair (f := Sum.inl) (fun _ _ e => Sum.inl.inj e) (P := fun x y => Rp F.K F.cl (hide O2 H2) x y) (r1.later l2 k2) b5
theorem keysV (ks : List Int) : (ks.map V.int) = (ks.map (Sum.inl : Int → Key)).map kV := by
  rw [List.map_map]
  rfl
theorem inl_inj : ∀ (a b : List Int), a.map (Sum.inl : Int → Key) = b.map Sum.inl → a = b
  | [], [], _ => rfl
  | [], _ :: _, h => by cases h
  | _ :: _, [], h => by cases h
  | x :: xs, y :: ys, h => by
    injection h with h1 h2
    rw [Sum.inl.inj h1, inl_inj xs ys h2]
theorem wp_putT {i : Nat} {kvs : List (List Int × Dt)} {ks : List Int} (h : Ev F tv ρ d ρ1) (hy : Ev F ty ρ1 (.tup (ks.map .int)) ρ2) (h2 : ρ2[i]? = some (.ow (.dt kvs))) (h1 : ρ1[i]? = some (.ow (.dt kvs))) (hl : kvs.length < 100000) (kk : Φ.nx (ρ2.set i (.ow (.dt (putD kvs ks d))))) :
    Wp F (sDPut (tVar i) ty tv) ρ Φ := fun O σ H D R n _ _ _ => by
  refine h O σ H R _ fun v O1 H1 l1 k1 R1 r1 => ?_
  obtain ⟨a, a1, _⟩ := R1.ow i _ h1
  refine ⟨_, a1, ?_⟩
  refine hy O1 σ H1 R1 _ fun y O2 H2 l2 k2 R2 r2 => ?_
  obtain ⟨b, b1, b2, b3, ws, b4, b5⟩ := R2.ow i _ h2
  have e : b = a := by
    rw [a1] at b1
    exact (V.ref.inj (Option.some.inj (Option.some.inj b1))).symm
  subst e
  cases r2 with
  | @tup t xs _ ht hx =>
    have ht2 : H2 t = some (.tup ((ks.map (Sum.inl : Int → Key)).map kV)) := by
      rw [← keysV, ← hx.ints]
      exact hide_ex O2 H2 _ _ ht
    refine ⟨b, _, rfl, DPut.t b4 ht2 (sz_lt (by rw [paired_len b5]; exact hl)), n O2 σ _ _ kk (((k1.vs l1).trans (k2.vs l2)).trans (Vs.wr b2)) (R2.wr h2 b1 ⟨_, rfl, ?_⟩)⟩
    exact put_pair (f := fun l : List Int => l.map Sum.inl) inl_inj (P := fun x y => Rp F.K F.cl (hide O2 H2) x y) (r1.later l2 k2) b5
/-! ### own lists read where they stand -/
theorem ixN_of {n j : Nat} (hj : j < n) : ixN n (j : Int) = some j := by
  unfold ixN
  rw [if_pos (by omega), if_pos (by omega)]
  simp
theorem ev_ixPm {i : Nat} {s : Int} (h : ρ[i]? = some (.pm s)) : Ev F (tOp (rIxL F.K) (tVar i) (tC (.int 0))) ρ (.int s) ρ := fun O σ H R Q q => by
  obtain ⟨a, a1, a2, a3⟩ := R.pm i s h
  exact ⟨_, a2, a, [.int s], 0, .int s, rfl, rfl, .inl (.inl a3), atI_nat (j := 0) rfl, q _ O H (Le.refl O) (Vk.refl O H) R (.int s)⟩
theorem wp_setPm {i : Nat} {s s' : Int} (h : Ev F te ρ (.int s') ρ1) (hi : ρ1[i]? = some (.pm s)) (one : ∀ j s, ρ1[j]? = some (.pm s) → j = i) (k : Φ.nx (ρ1.set i (.pm s'))) : Wp F (tAsg te (gSub (tVar i) (tC (.int 0)) rSetL)) ρ Φ := fun O σ H D R n _ _ _ =>
  h O σ H R _ fun v O1 H1 l kk R1 r => by
    cases r
    obtain ⟨a, a1, a2, a3⟩ := R1.pm i s hi
    refine ⟨_, a2, ?_⟩
    obtain ⟨_, R2⟩ := R1.wrp (s' := s') hi a2 one
    exact ⟨a, [.int s], 0, 0, rfl, rfl, a3, ixN_of (n := 1) (j := 0) (by decide), n O1 σ _ _ k ((kk.vs l).trans (Vs.wr (R1.sub a (R1.mb a a1)))) R2⟩
end
end Md
namespace Md
open PySem L2
open Evl (Ex ex_l ex_t sz_of sz_lt fresh_back)
section
variable {F : Fx} {O O' : Addr → Bool} {H H' : Hp} {σ σ' : St} {ρ ρ' ρ1 ρ2 ρ3 : Ro} {d d1 d2 : Dt} {v : V} {m m' : Mo}
variable {t u tb : TS} {te ta td ty tv : TE} {tt : TT} {g : TG} {is : List Nat} {Φ Ψ : Pd} {b : Bool}
/-! ### comprehensions -/
def wipeR (ρ : Ro) : List Nat → Ro
  | [] => ρ
  | v :: vs => (wipeR ρ vs).set v .no
theorem wipeR_len (ρ : Ro) : ∀ vs : List Nat, (wipeR ρ vs).length = ρ.length
  | [] => rfl
  | v :: vs => by
    unfold wipeR
    rw [List.length_set, wipeR_len ρ vs]
theorem Rel.wipe (R : Rel F O H σ ρ) : ∀ vs : List Nat, Rel F O H (L2.wipe σ vs) (wipeR ρ vs)
  | [] => R
  | v :: vs => (R.wipe vs).drop v none
theorem wipeR_out {ρ : Ro} {i : Nat} : ∀ {vs : List Nat}, i ∉ vs → (wipeR ρ vs)[i]? = ρ[i]?
  | [], _ => rfl
  | v :: vs, h => by
    unfold wipeR
    rw [List.getElem?_set_ne (fun e => h (by rw [e]; exact List.mem_cons_self)), wipeR_out (fun z => h (List.mem_cons_of_mem _ z))]
theorem wipe_in {σ : St} {i : Nat} : ∀ {vs : List Nat}, i ∈ vs → i < σ.length → (L2.wipe σ vs)[i]? = some none
  | v :: vs, h, hl => by
    unfold L2.wipe
    by_cases e : v = i
    · rw [e, List.getElem?_set_self (by rw [wipe_length]; exact hl)]
    · rw [List.getElem?_set_ne e]
      exact wipe_in ((List.mem_cons.mp h).resolve_left (fun z => e z.symm)) hl
theorem wipe_same {σ σ2 : St} {is vs : List Nat} (s : SameBut is (L2.wipe σ vs) σ2) (hi : ∀ k ∈ is, k ∈ vs) : L2.wipe σ2 vs = L2.wipe σ vs := by
  have hl : σ2.length = σ.length := by rw [s.1, wipe_length]
  apply List.ext_getElem?
  intro k
  by_cases hk : k ∈ vs
  · by_cases hlt : k < σ.length
    · rw [wipe_in hk (by rw [hl]; exact hlt), wipe_in hk hlt]
    · rw [List.getElem?_eq_none (by rw [wipe_length]; omega), List.getElem?_eq_none (by rw [wipe_length]; omega)]
  · rw [wipe_out hk, s.2 k (fun z => hk (hi k z))]
/-- the slots that a comprehension forgets hold no object of the def's own -/
def Clean (ρ : Ro) (vs : List Nat) : Prop := ∀ k ∈ vs, (∀ m, ρ[k]? ≠ some (.ow m)) ∧ ∀ s, ρ[k]? ≠ some (.pm s)
def pin (F : Fx) (B' : Addr → Bool) (G : Hp) : Fx := ⟨F.K, F.cl, G, B', F.M⟩
/-- another frame's word of the same slots -/
theorem Rel.turn (R : Rel F O H σ ρ) {B' : Addr → Bool} {G : Hp} (h1 : ∀ a, F.M = some a → B' a = true) (h2 : ∀ a, B' a = true → O a = true) (h3 : ∀ (i : Nat) (m : Mo) (a : Addr), ρ[i]? = some (.ow m) → σ[i]? = some (some (.ref a)) → B' a = false)
    (h4 : ∀ a, O a = true → B' a = false → G a = none) (h5 : ∀ a o, G a = some o → F.M ≠ some a → H a = some o) : Rel (pin F B' G) O H σ ρ where
  len := R.len
  sub := h2
  al := R.al
  mb := h1
  fr := h4
  kp := h5
  im := R.im
  ow := fun i m h => by
    obtain ⟨a, a1, a2, _, a4⟩ := R.ow i m h
    exact ⟨a, a1, a2, h3 i m a h a1, a4⟩
  pm := R.pm
  sep := R.sep
theorem range_filter_succ (n : Nat) (p : Nat → Bool) (f : Nat → Dt) : ((List.range (n + 1)).filter p).map f = ((List.range n).filter p).map f ++ (if p n then [f n] else []) := by
  rw [List.range_succ, List.filter_append, List.map_append]
  cases e : p n <;> simp [e]
theorem filter_range_le (n : Nat) (p : Nat → Bool) (f : Nat → Dt) : (((List.range n).filter p).map f).length ≤ n := by
  rw [List.length_map]
  have h := List.length_filter_le p (List.range n)
  rwa [List.length_range] at h
theorem ev_lcG {wi : TI} {vs : List Nat} {items : List Dt} {Sx : Ro → Prop} (st : Nat → Ro) (bs : Nat → Bool) (f : Nat → Dt) (hi : EvS F wi ρ items (st 0) Sx) (hS : ∀ i, Sx (wipeR (st i) vs)) (hl : items.length < 100000) (hc : ∀ i, Clean (st i) vs) (hst : ∀ i, ∀ k ∈ vs, (st i)[k]? = (st 0)[k]?) (hln : ∀ i, (st i).length = (st 0).length)
    (hx : ∀ (B' : Addr → Bool) (G : Hp) (i : Nat) (x : Dt), items[i]? = some x → ∃ js ρx ρy, (∀ k ∈ js, k ∈ vs) ∧ Tg (pin F B' G) g js x (wipeR (st i) vs) ρx ∧ EvT (pin F B' G) tt ρx (bs i) ρx ∧ (bs i = true → Ev (pin F B' G) te ρx (f i) ρy ∧ wipeR ρy vs = wipeR (st (i + 1)) vs) ∧ (bs i = false → wipeR ρx vs = wipeR (st (i + 1)) vs)) :
    Ev F (tLc wi g tt te vs) ρ (.lst (((List.range items.length).filter bs).map f)) (st items.length) := fun O σ H R Q q => hi O σ H R _ fun J O1 H1 l1 k1 R1 HJ => by
  intro D hD
  have nD : O1 D = false := R1.noH hD
  let B' : Addr → Bool := plus F.B D
  have hBD : B' D = true := plus_at.mpr (.inr rfl)
  have hFD : F.B D = false := R1.newB hD
  have h0D : F.H0 D = none := R1.new0 hD
  let W : Nat → Nat → Hp → Prop := fun i m H' => m = items.length - i ∧ i ≤ items.length ∧ ∃ O2 acc, Le O2 (plus O1 D) ∧ Vs O1 H1 O2 H' ∧ Rel (pin F B' F.H0) O2 H' (L2.wipe σ vs) (wipeR (st i) vs) ∧ H' D = some (.lst acc) ∧ RpA F.K F.cl (hide O2 H') acc (((List.range i).filter bs).map f)
  have start : Rel (pin F B' F.H0) (plus O1 D) (upd H1 D (.lst [])) (L2.wipe σ vs) (wipeR (st 0) vs) := by
    have R2 : Rel F (plus O1 D) (upd H1 D (.lst [])) ((L2.wipe σ vs).set (L2.wipe σ vs).length (some (.ref D))) ((wipeR (st 0) vs).set (wipeR (st 0) vs).length (.ow (.ls []))) := by
      have z := (R1.wipe vs).own (m := .ls []) (o := .lst []) hD ⟨[], rfl, .nil⟩ (wipeR (st 0) vs).length
      rwa [show (L2.wipe σ vs).length = (wipeR (st 0) vs).length from (R1.wipe vs).len]
    rw [List.set_eq_of_length_le (Nat.le_refl _), List.set_eq_of_length_le (Nat.le_refl _)] at R2
    refine R2.turn (fun a h => plus_at.mpr (.inl (R2.mb a h))) (fun a h => ?_) (fun i m a h1 h2 => ?_) (fun a h hb => R2.fr a h (plus_no.mp hb).1) R2.kp
    · rcases plus_at.mp h with h | h
      · exact plus_at.mpr (.inl (R1.sub a h))
      · exact plus_at.mpr (.inr h)
    · obtain ⟨a', x1, x2, x3, x4⟩ := (R1.wipe vs).ow i m h1
      rw [h2] at x1
      cases x1
      exact plus_no.mpr ⟨x3, fun e => by
        rw [e, nD] at x2
        cases x2⟩
  refine ⟨W, ⟨_, rfl, Nat.zero_le _, plus O1 D, [], Le.refl _, Vs.plus hD, start, upd_same, .nil⟩, ?_⟩
  rintro i m H2 ⟨rfl, hle, O2, acc, l2, vs2, R2, eD, ra⟩
  obtain ⟨g1, g2⟩ := HJ (pin F B' F.H0) O2 H2 _ _ rfl rfl vs2 R2 (hS i)
  by_cases hlt : i < items.length
  · obtain ⟨go, yl⟩ := g1 i _ (List.getElem?_eq_getElem hlt)
    obtain ⟨js, ρx, ρy, hjs, hT, hB2, hE, hF⟩ := hx B' (upd F.H0 D (.lst acc)) i _ (List.getElem?_eq_getElem hlt)
    refine .inr ⟨go, W (i + 1) (items.length - (i + 1)), fun H' hW => ⟨_, by omega, hW⟩, fun x H' hy => ?_⟩
    obtain ⟨ex, rx⟩ := yl x H' hy
    have R2' : Rel (pin F B' (upd F.H0 D (.lst acc))) O2 H' (L2.wipe σ vs) (wipeR (st i) vs) := by
      refine (R2.ex ex).turn R2.mb R2.sub (fun i m a h1 h2 => ?_) (fun a h hb => ?_) fun a o h n => ?_
      · obtain ⟨a', x1, x2, x3, x4⟩ := R2.ow i m h1
        rw [h2] at x1
        cases x1
        exact x3
      · have ne : a ≠ D := fun e => by
          rw [e, hBD] at hb
          cases hb
        rw [upd_ne ne]
        exact R2.fr a h hb
      · by_cases e : a = D
        · rw [e, upd_same] at h
          rw [e, ← h]
          exact ex _ _ eD
        · rw [upd_ne e] at h
          exact ex _ _ (R2.kp a o h n)
    refine hT O2 (L2.wipe σ vs) H' x R2' rx _ fun σ3 s3 R3 => ⟨wipe_same s3 hjs, ?_⟩
    refine hB2 O2 σ3 H' R3 _ fun O4 H4 l4 k4 R4 => ?_
    have keep : ∀ {O5 : Addr → Bool} {H5 : Hp} {ρz : Ro}, wipeR ρz vs = wipeR (st (i + 1)) vs → Le O5 O4 → Vk O4 H4 H5 → Rel (pin F B' (upd F.H0 D (.lst acc))) O5 H5 σ3 ρz → Le O5 (plus O1 D) ∧ Vs O2 H2 O5 H5 ∧ O5 D = true ∧ H5 D = some (.lst acc) ∧ Rel (pin F B' F.H0) O5 H5 (L2.wipe σ vs) (wipeR (st (i + 1)) vs) := fun {O5 H5 ρz} hw l5 k5 R5 => by
      have v3 : Vs O2 H2 O5 H5 := ((hide_exx O2 ex).trans (k4.vs l4)).trans (k5.vs l5)
      have z := R5.wipe vs
      rw [wipe_same s3 hjs, hw] at z
      refine ⟨(l2.trans l4).trans l5, v3, R5.sub D hBD, R5.kp D _ upd_same (fun e => ?_), z.turn z.mb z.sub (fun i m a h1 h2 => ?_) (fun a h hb => ?_) fun a o h n => ?_⟩
      · have := R1.mb D e
        rw [hFD] at this
        cases this
      · obtain ⟨a', x1, x2, x3, x4⟩ := z.ow i m h1
        rw [h2] at x1
        cases x1
        exact x3
      · have y := z.fr a h hb
        have ne : a ≠ D := fun e => by
          rw [e, hBD] at hb
          cases hb
        have y : (upd F.H0 D (.lst acc)) a = none := y
        rwa [upd_ne ne] at y
      · have ne : a ≠ D := fun e => by
          rw [e, h0D] at h
          cases h
        exact z.kp a o (show (upd F.H0 D (.lst acc)) a = some o by rw [upd_ne ne]; exact h) n
    cases eb : bs i with
    | false =>
      obtain ⟨a1, a2, a3, a4, a5⟩ := keep (hF eb) (Le.refl O4) (Vk.refl O4 H4) R4
      refine ⟨rfl, hlt, O4, acc, a1, vs2.trans a2, a5, a4, ?_⟩
      rw [range_filter_succ, eb]
      show RpA _ _ _ acc (_ ++ [])
      rw [List.append_nil]
      exact ra.mono a2
    | true =>
      obtain ⟨hE1, hE2⟩ := hE eb
      refine hE1 O4 σ3 H4 R4 _ fun y O5 H5 l5 k5 R5 ry => ?_
      obtain ⟨a1, a2, a3, a4, a5⟩ := keep hE2 l5 k5 R5
      have hal : acc.length ≤ i := by
        rw [ra.length]
        exact filter_range_le i bs f
      have vw : Vs O5 H5 O5 (upd H5 D (.lst (acc ++ [y]))) := Vs.wr a3
      refine ⟨acc, a4, sz_lt (by omega), rfl, hlt, O5, acc ++ [y], a1, (vs2.trans a2).trans vw, ?_, upd_same, ?_⟩
      · exact {
          len := a5.len
          sub := a5.sub
          al := fun x h => by
            by_cases e : x = D
            · rw [e, upd_same]
              exact ⟨(fun z => by cases z), fun _ z => by cases z⟩
            · rw [upd_ne e]
              exact a5.al x h
          mb := a5.mb
          fr := a5.fr
          kp := fun x u h n => by
            have ne : x ≠ D := fun e => by
              have h : F.H0 x = some u := h
              rw [e, h0D] at h
              cases h
            rw [upd_ne ne]
            exact a5.kp x u h n
          im := fun j e h => by
            obtain ⟨w, h1, h2⟩ := a5.im j e h
            exact ⟨w, h1, h2.mono vw⟩
          ow := fun j m1 h => by
            obtain ⟨x, h1, h2, h3, h4⟩ := a5.ow j m1 h
            have ne : x ≠ D := fun e => by
              rw [e] at h3
              have h3 : B' D = false := h3
              rw [hBD] at h3
              cases h3
            exact ⟨x, h1, h2, h3, by rw [upd_ne ne]; exact h4.mono vw⟩
          pm := fun j s h => by
            obtain ⟨x, h1, h2, h3⟩ := a5.pm j s h
            have ne : x ≠ D := fun e => by
              have := R1.mb x h1
              rw [e, hFD] at this
              cases this
            exact ⟨x, h1, h2, by rw [upd_ne ne]; exact h3⟩
          sep := a5.sep }
      · rw [range_filter_succ, eb]
        exact (ra.mono (a2.trans vw)).append (.cons (ry.mono vw) .nil)
  · have e : i = items.length := by omega
    subst e
    refine .inl ⟨g2, ?_⟩
    have vl : Vs O2 H2 (less O2 D) H2 := Vs.less
    have le : Le (less O2 D) O1 := fun a h => (plus_at.mp (l2 a (less_at.mp h).1)).resolve_right (less_at.mp h).2
    have vk : Vk O1 H1 H2 := fun a o n h => (hide_at.mp (vs2 a o (hide_at.mpr ⟨n, h⟩))).2
    refine q _ (less O2 D) H2 (l1.trans le) (k1.trans l1 vk) ?_ (.lst (.inl (.inl (hide_at.mpr ⟨less_no.mpr (.inr rfl), eD⟩))) (ra.mono vl))
    exact {
      len := R1.len.trans (hln _).symm
      sub := fun a h => less_at.mpr ⟨R2.sub a (plus_at.mpr (.inl h)), fun e => by
        rw [e, hFD] at h
        cases h⟩
      al := fun a h => R2.al a (less_at.mp h).1
      mb := R1.mb
      fr := fun a h hb => R2.fr a (less_at.mp h).1 (plus_no.mpr ⟨hb, (less_at.mp h).2⟩)
      kp := R2.kp
      im := fun j x h => by
        by_cases hj : j ∈ vs
        · rw [hst _ j hj] at h
          obtain ⟨w, h1, h2⟩ := R1.im j x h
          exact ⟨w, h1, h2.later le vk⟩
        · obtain ⟨w, h1, h2⟩ := R2.im j x (by rw [wipeR_out hj]; exact h)
          rw [wipe_out hj] at h1
          exact ⟨w, h1, h2.mono vl⟩
      ow := fun j m1 h => by
        by_cases hj : j ∈ vs
        · exact absurd h ((hc _ j hj).1 m1)
        · obtain ⟨x, h1, h2, h3, h4⟩ := R2.ow j m1 (by rw [wipeR_out hj]; exact h)
          rw [wipe_out hj] at h1
          have h3' := plus_no.mp h3
          exact ⟨x, h1, less_at.mpr ⟨h2, h3'.2⟩, h3'.1, h4.mono vl⟩
      pm := fun j s h => by
        by_cases hj : j ∈ vs
        · exact absurd h ((hc _ j hj).2 s)
        · obtain ⟨x, h1, h2, h3⟩ := R2.pm j s (by rw [wipeR_out hj]; exact h)
          rw [wipe_out hj] at h2
          exact ⟨x, h1, h2, h3⟩
      sep := fun j k m1 m2 a hj hk h1 h2 => by
        have n1 : j ∉ vs := fun z => (hc _ j z).1 m1 hj
        have n2 : k ∉ vs := fun z => (hc _ k z).1 m2 hk
        exact R2.sep j k m1 m2 a (by rw [wipeR_out n1]; exact hj) (by rw [wipeR_out n2]; exact hk) (by rw [wipe_out n1]; exact h1) (by rw [wipe_out n2]; exact h2) }
theorem ev_lc {wi : TI} {vs : List Nat} {items : List Dt} {Sx : Ro → Prop} (bs : Nat → Bool) (f : Nat → Dt) (hi : EvS F wi ρ items ρ1 Sx) (hS : Sx (wipeR ρ1 vs)) (hl : items.length < 100000) (hc : Clean ρ1 vs)
    (hx : ∀ (B' : Addr → Bool) (G : Hp) (i : Nat) (x : Dt), items[i]? = some x → ∃ js ρx, (∀ k ∈ js, k ∈ vs) ∧ Tg (pin F B' G) g js x (wipeR ρ1 vs) ρx ∧ EvT (pin F B' G) tt ρx (bs i) ρx ∧ (bs i = true → Ev (pin F B' G) te ρx (f i) ρx) ∧ wipeR ρx vs = wipeR ρ1 vs) :
    Ev F (tLc wi g tt te vs) ρ (.lst (((List.range items.length).filter bs).map f)) ρ1 :=
  ev_lcG (fun _ => ρ1) bs f hi (fun _ => hS) hl (fun _ => hc) (fun _ _ _ => rfl) (fun _ => rfl) fun B' G i x hi => by
    obtain ⟨js, ρx, h1, h2, h3, h4, h5⟩ := hx B' G i x hi
    exact ⟨js, ρx, ρx, h1, h2, h3, fun e => ⟨h4 e, h5⟩, fun _ => h5⟩
end
end Md
namespace Md
open PySem L2
open Evl (Ex ex_l ex_t sz_of sz_lt fresh_back)
section
variable {F : Fx} {O O' : Addr → Bool} {H H' : Hp} {σ σ' : St} {ρ ρ' ρ1 ρ2 ρ3 : Ro} {d d1 d2 : Dt} {v : V} {m m' : Mo}
variable {t u tb : TS} {te ta td ty tv : TE} {tt : TT} {g : TG} {is : List Nat} {Φ Ψ : Pd} {b : Bool}
/-! ### comprehensions over what has a type -/
theorem filter_ix {α : Type} (p : α → Bool) (h : α → Dt) : ∀ (xs : List α), ((List.range xs.length).filter fun i => (xs[i]?.map p).getD false).map (fun i => (xs[i]?.map h).getD .non) = (xs.filter p).map h
  | [] => rfl
  | x :: xs => by
    have ih := filter_ix p h xs
    rw [List.length_cons, List.range_succ_eq_map, List.filter_cons, List.filter_cons, List.filter_map]
    have e0 : (((x :: xs)[0]?.map p).getD false) = p x := rfl
    rw [e0]
    have e1 : ((List.filter ((fun i => ((x :: xs)[i]?.map p).getD false) ∘ Nat.succ) (List.range xs.length)).map Nat.succ).map (fun i => ((x :: xs)[i]?.map h).getD .non) = (xs.filter p).map h := by
      rw [List.map_map, ← ih]
      rfl
    cases p x with
    | true =>
      rw [if_pos rfl, if_pos rfl, List.map_cons, List.map_cons, e1]
      rfl
    | false => rw [if_neg Bool.false_ne_true, if_neg Bool.false_ne_true, e1]
/-- [h(x) for x in xs if p(x)] -/
theorem ev_lcMS {α : Type} {wi : TI} {vs : List Nat} {Sx : Ro → Prop} (xs : List α) (e : α → Dt) (p : α → Bool) (h : α → Dt) (hi : EvS F wi ρ (xs.map e) ρ1 Sx) (hS : Sx (wipeR ρ1 vs)) (hl : xs.length < 100000) (hc : Clean ρ1 vs)
    (hx : ∀ (B' : Addr → Bool) (G : Hp) (x : α), x ∈ xs → ∃ js ρx, (∀ k ∈ js, k ∈ vs) ∧ Tg (pin F B' G) g js (e x) (wipeR ρ1 vs) ρx ∧ EvT (pin F B' G) tt ρx (p x) ρx ∧ (p x = true → Ev (pin F B' G) te ρx (h x) ρx) ∧ wipeR ρx vs = wipeR ρ1 vs) :
    Ev F (tLc wi g tt te vs) ρ (.lst ((xs.filter p).map h)) ρ1 := by
  have z := ev_lc (tt := tt) (te := te) (g := g) (vs := vs) (fun i => (xs[i]?.map p).getD false) (fun i => (xs[i]?.map h).getD .non) hi hS (by rw [List.length_map]; exact hl) hc fun B' G i x hix => by
    rw [List.getElem?_map] at hix
    cases q : xs[i]? with
    | none =>
      rw [q] at hix
      cases hix
    | some a =>
      rw [q] at hix
      cases hix
      exact hx B' G a (List.mem_of_getElem? q)
  rw [List.length_map, filter_ix] at z
  exact z
theorem ev_lcM {α : Type} {wi : TI} {vs : List Nat} (xs : List α) (e : α → Dt) (p : α → Bool) (h : α → Dt) (hi : EvI F wi ρ (xs.map e) ρ1) (hl : xs.length < 100000) (hc : Clean ρ1 vs)
    (hx : ∀ (B' : Addr → Bool) (G : Hp) (x : α), x ∈ xs → ∃ js ρx, (∀ k ∈ js, k ∈ vs) ∧ Tg (pin F B' G) g js (e x) (wipeR ρ1 vs) ρx ∧ EvT (pin F B' G) tt ρx (p x) ρx ∧ (p x = true → Ev (pin F B' G) te ρx (h x) ρx) ∧ wipeR ρx vs = wipeR ρ1 vs) :
    Ev F (tLc wi g tt te vs) ρ (.lst ((xs.filter p).map h)) ρ1 := ev_lcMS xs e p h hi trivial hl hc hx
theorem et_yes : EvT F tYes ρ true ρ := fun O σ H R Q q => q O H (Le.refl O) (Vk.refl O H) R
/-- [h(x) for x in xs] -/
theorem ev_lcA {α : Type} {wi : TI} {vs : List Nat} (xs : List α) (e : α → Dt) (h : α → Dt) (hi : EvI F wi ρ (xs.map e) ρ1) (hl : xs.length < 100000) (hc : Clean ρ1 vs)
    (hx : ∀ (B' : Addr → Bool) (G : Hp) (x : α), x ∈ xs → ∃ js ρx, (∀ k ∈ js, k ∈ vs) ∧ Tg (pin F B' G) g js (e x) (wipeR ρ1 vs) ρx ∧ Ev (pin F B' G) te ρx (h x) ρx ∧ wipeR ρx vs = wipeR ρ1 vs) :
    Ev F (tLc wi g tYes te vs) ρ (.lst (xs.map h)) ρ1 := by
  have z := ev_lcM (tt := tYes) (te := te) (g := g) (vs := vs) xs e (fun _ => true) h hi hl hc fun B' G x hm => by
    obtain ⟨js, ρx, a1, a2, a3, a4⟩ := hx B' G x hm
    exact ⟨js, ρx, a1, a2, et_yes, fun _ => a3, a4⟩
  rwa [List.filter_eq_self.mpr (fun _ _ => rfl)] at z

/-! ### promises -/
/-- a def that changes nothing: from the data ds to the datum d -/
def SpP (K : PySem.W.Frag) (cl : Nat → Addr) (R : List Dt → Dt → Prop) : Sp := fun vs H Q _ => ∃ (O : Addr → Bool) (ds : List Dt) (d : Dt), R ds d ∧ Al O H ∧ RpA K cl (hide O H) vs ds ∧ ∀ v H', Ex H H' → Rp K cl (hide O H') v d → Q v H'
/-- a def whose first argument is a list of one int, which it changes -/
def SpM (K : PySem.W.Frag) (cl : Nat → Addr) (R : Int → List Dt → Dt → Int → Prop) : Sp := fun vs H Q _ => ∃ (O : Addr → Bool) (a : Addr) (us : List V) (s : Int) (ds : List Dt) (d : Dt) (s' : Int), vs = .ref a :: us ∧ R s ds d s' ∧ Al O H ∧
  O a = true ∧ H a = some (.lst [.int s]) ∧ RpA K cl (hide O H) us ds ∧ ∀ v H', (∀ b o, b ≠ a → H b = some o → H' b = some o) → H' a = some (.lst [.int s']) → Rp K cl (hide O H') v d → Q v H'
theorem ev_call {R : List Dt → Dt → Prop} {E : XK} {ta : TA} {ds : List Dt} (h : EvA F ta ρ ds ρ1) (hr : R ds d) : Ev F (tCall (SpP F.K F.cl R) [] E ta) ρ d ρ1 := fun O σ H R Q q =>
  h O σ H R _ fun vs O1 H1 l k R1 r => ⟨O1, ds, d, hr, R1.al, by rw [List.append_nil]; exact r, fun v H2 e rv => q v O1 H2 l (k.trans l (Vk.ex e)) (R1.ex e) rv⟩
/-- the first argument a list of one int: the caller's own -/
theorem ev_callO {R : Int → List Dt → Dt → Int → Prop} {E : XK} {ta : TA} {ds : List Dt} {i : Nat} {s s' : Int} (h : EvA F ta ρ ds ρ1) (h0 : ρ[i]? = some (.ow (.ls [.int s]))) (hi : ρ1[i]? = some (.ow (.ls [.int s]))) (hr : R s ds d s') :
    Ev F (tCall (SpM F.K F.cl R) [] E (tCons (tVar i) ta)) ρ d (ρ1.set i (.ow (.ls [.int s']))) := fun O σ H Rl Q q => by
  obtain ⟨a, a1, _⟩ := Rl.ow i _ h0
  refine ⟨_, a1, ?_⟩
  refine h O σ H Rl _ fun us O1 H1 l k R1 r => ?_
  obtain ⟨b, b1, b2, b3, ws, b4, b5⟩ := R1.ow i _ hi
  have e : b = a := by
    rw [a1] at b1
    exact (V.ref.inj (Option.some.inj (Option.some.inj b1))).symm
  subst e
  have ew : ws = [.int s] := by
    have : RpA F.K F.cl (hide O1 H1) ws (([s] : List Int).map Dt.int) := b5
    exact this.ints
  subst ew
  refine ⟨O1, b, us, s, ds, d, s', ?_, hr, R1.al, b2, b4, r, fun v H2 e1 e2 rv => ?_⟩
  · rw [List.append_nil]
  · have vs1 : Vs O1 H1 O1 H2 := fun x o hx => by
      obtain ⟨y1, y2⟩ := hide_at.mp hx
      exact hide_at.mpr ⟨y1, e1 x o (fun e => by rw [e, b2] at y1; cases y1) y2⟩
    have Rw := R1.wr (o := .lst [.int s']) (m' := .ls [.int s']) hi b1 ⟨_, rfl, .cons (.int _) .nil⟩
    have Rw2 : Rel F O1 H2 σ (ρ1.set i (.ow (.ls [.int s']))) := Rw.ex fun x o hx => by
      by_cases e : x = b
      · rw [e, upd_same] at hx
        rw [e, ← hx]
        exact e2
      · rw [upd_ne e] at hx
        exact e1 x o e hx
    exact q v O1 H2 l (k.trans l (fun x o n hx => e1 x o (fun e => by rw [e, b2] at n; cases n) hx)) Rw2 rv
/-- .. that of the caller's caller -/
theorem ev_callQ {R : Int → List Dt → Dt → Int → Prop} {E : XK} {ta : TA} {ds : List Dt} {i : Nat} {s s' : Int} (h : EvA F ta ρ ds ρ1) (h0 : ρ[i]? = some (.pm s)) (hi : ρ1[i]? = some (.pm s)) (one : ∀ j s, ρ1[j]? = some (.pm s) → j = i) (hr : R s ds d s') :
    Ev F (tCall (SpM F.K F.cl R) [] E (tCons (tVar i) ta)) ρ d (ρ1.set i (.pm s')) := fun O σ H Rl Q q => by
  obtain ⟨a, a0, a1, _⟩ := Rl.pm i _ h0
  refine ⟨_, a1, ?_⟩
  refine h O σ H Rl _ fun us O1 H1 l k R1 r => ?_
  obtain ⟨b, b0, b1, b4⟩ := R1.pm i _ hi
  have e : b = a := by
    rw [a1] at b1
    exact (V.ref.inj (Option.some.inj (Option.some.inj b1))).symm
  subst e
  have b2 : O1 b = true := R1.sub b (R1.mb b b0)
  refine ⟨O1, b, us, s, ds, d, s', ?_, hr, R1.al, b2, b4, r, fun v H2 e1 e2 rv => ?_⟩
  · rw [List.append_nil]
  · obtain ⟨_, Rw⟩ := R1.wrp (s' := s') hi b1 one
    have Rw2 : Rel F O1 H2 σ (ρ1.set i (.pm s')) := Rw.ex fun x o hx => by
      by_cases e : x = b
      · rw [e, upd_same] at hx
        rw [e, ← hx]
        exact e2
      · rw [upd_ne e] at hx
        exact e1 x o e hx
    exact q v O1 H2 l (k.trans l (fun x o n hx => e1 x o (fun e => by rw [e, b2] at n; cases n) hx)) Rw2 rv
/-! ### objects: made, asked -/
def spI (C : Addr) : Sp := fun vs H Q _ => ∃ (x dx : Addr) (v : V), vs = [.ref x, v] ∧ H x = some (.ins C dx []) ∧ Q .non (upd H x (.ins C dx [("parts", v)]))
theorem ev_make {k : Nat} {E : XK} {ta : TA} (h : EvA F ta ρ [d] ρ1) : Ev F (tMake (F.cl k) (spI (F.cl k)) [] E ta) ρ (.obj k d) ρ1 := fun O σ H R Q q =>
  h O σ H R _ fun vs O1 H1 l kk R1 r => by
    obtain ⟨v, w, e, r1, r2⟩ := r.cons_inv
    rw [r2.nil_inv] at e
    subst e
    intro x dx hx hd ne
    refine ⟨x, dx, v, rfl, upd_same, rfl, ?_⟩
    have ex : Ex H1 (upd (upd (upd H1 dx (.own x)) x (.ins (F.cl k) dx [])) x (.ins (F.cl k) dx [("parts", v)])) := fun a o ha => by
      rw [upd_ne (ne_of_none ha hx), upd_ne (ne_of_none ha hx), upd_ne (ne_of_none ha hd)]
      exact ha
    exact q _ O1 _ l (kk.trans l (Vk.ex ex)) (R1.ex ex) (.obj (hide_at.mpr ⟨R1.noH hx, upd_same⟩) (r1.ex ex))
theorem ev_fld {k : Nat} (h : Ev F ta ρ (.obj k d) ρ1) (hc : Cls F.K (F.cl k)) (hn : NoAttr F.K (F.cl k) "parts") : Ev F (tFld F.K ta "parts") ρ d ρ1 := fun O σ H R Q q =>
  h O σ H R _ fun v O1 H1 l kk R1 r => by
    cases r with
    | obj ho hp => exact ⟨_, _, _, _, _, rfl, hide_ex O1 H1 _ _ ho, hc, hn, rfl, q _ O1 H1 l kk R1 hp⟩
theorem ev_meth {k : Nat} {R : List Dt → Dt → Prop} {E : XK} {t : TA} {nm : Str} {ds : List Dt} (h : Ev F ta ρ (.obj k d1) ρ1) (ha : EvA F t ρ1 ds ρ2) (hm : ¬ nm = "parts") (hr : R (.obj k d1 :: ds) d) :
    Ev F (tMeth (F.cl k) nm (SpP F.K F.cl R) [] E ta t) ρ d ρ2 := fun O σ H Rl Q q =>
  h O σ H Rl _ fun v O1 H1 l kk R1 r => by
    cases r with
    | @obj a dx w _ _ ho hp =>
      have hno : List.lookup nm [(("parts" : Str), w)] = none := by
        have hb : (nm == ("parts" : Str)) = false := beq_eq_false_iff_ne.mpr hm
        simp only [List.lookup, hb]
      refine ⟨a, dx, _, rfl, hide_ex O1 H1 _ _ ho, hno, ?_⟩
      refine ha O1 σ H1 R1 _ fun vs O2 H2 l2 k2 R2 r2 => ?_
      refine ⟨O2, _, d, hr, R2.al, .cons ((Rp.obj ho hp).later l2 k2) (by rw [List.append_nil]; exact r2), fun v H3 e rv => ?_⟩
      exact q v O2 H3 (l.trans l2) ((kk.trans l k2).trans (l.trans l2) (Vk.ex e)) (R2.ex e) rv
/-- one of two readings -/
def tEither (t u : TE) : TE := fun σ H Q => t σ H Q ∨ u σ H Q
theorem pe_either {X : Cx} {e : Expr} {t u : TE} (h : PE X e t) (h2 : PE X e u) : PE X e (tEither t u) := ⟨fun pins s σ H Q I hq => hq.elim (h.run pins s σ H Q I) (h2.run pins s σ H Q I)⟩
theorem ev_left {t u : TE} (h : Ev F t ρ d ρ1) : Ev F (tEither t u) ρ d ρ1 := fun O σ H R Q q => .inl (h O σ H R Q q)
theorem ev_right {t u : TE} (h : Ev F u ρ d ρ1) : Ev F (tEither t u) ρ d ρ1 := fun O σ H R Q q => .inr (h O σ H R Q q)
/-! ### a body keeps its promise -/
theorem start_len (N : List Str) (vs : List V) (h : vs.length ≤ N.length) : (start N vs).length = N.length := by
  unfold L2.start
  rw [List.length_append, List.length_map, List.length_replicate]
  omega
theorem start_at {N : List Str} {vs : List V} {i : Nat} {v : V} (h : vs[i]? = some v) : (start N vs)[i]? = some (some v) := by
  unfold L2.start
  rw [List.getElem?_append_left (by rw [List.length_map]; exact (List.getElem?_eq_some_iff.mp h).1), List.getElem?_map, h]
  rfl
def ro0 (N : List Str) (ds : List Dt) : Ro := ds.map Sl.im ++ List.replicate (N.length - ds.length) .no
theorem ro0_im {N : List Str} {ds : List Dt} {i : Nat} {s : Sl} (h : (ro0 N ds)[i]? = some s) : (s = .no) ∨ ∃ d, ds[i]? = some d ∧ s = .im d := by
  unfold ro0 at h
  by_cases hl : i < ds.length
  · rw [List.getElem?_append_left (by rw [List.length_map]; exact hl), List.getElem?_map] at h
    rw [List.getElem?_eq_getElem hl] at h ⊢
    exact .inr ⟨_, rfl, (Option.some.inj h).symm⟩
  · rw [List.getElem?_append_right (by rw [List.length_map]; omega)] at h
    exact .inl (List.eq_of_mem_replicate (List.mem_of_getElem? h))
/-- what a body of SpP R is to reach -/
def endP (d : Dt) : Pd := ⟨fun _ => d = .non, fun d' _ => d' = d, fun _ => False, fun _ => False⟩
theorem spP_read {K : PySem.W.Frag} {cl : Nat → Addr} {R : List Dt → Dt → Prop} {N : List Str} {t : TS} (hN : ∀ ds d, R ds d → ds.length ≤ N.length)
    (h : ∀ (F : Fx), F.K = K → F.cl = cl → ∀ ds d, R ds d → Wp F t (ro0 N ds) (endP d)) : ∀ vs H Q E, SpP K cl R vs H Q E → t { nx := fun _ H' => Q .non H', rt := Q } (start N vs) H := fun vs H Q E hq => by
  obtain ⟨O, ds, d, hr, al, ra, k⟩ := hq
  have hl := ra.length
  have hN' := hN ds d hr
  let F : Fx := ⟨K, cl, H, O, none⟩
  have R0 : Rel F O H (start N vs) (ro0 N ds) := {
    len := by
      rw [start_len N vs (by omega)]
      unfold ro0
      rw [List.length_append, List.length_map, List.length_replicate]
      omega
    sub := fun a h => h
    al := al
    mb := fun a h => by cases h
    fr := fun a h hb => by
      have hb : O a = false := hb
      rw [h] at hb
      cases hb
    kp := fun a o h _ => h
    im := fun i e h => by
      rcases ro0_im h with z | ⟨x, h1, h2⟩
      · cases z
      · cases h2
        obtain ⟨v, v1, v2⟩ := ra.get h1
        exact ⟨v, start_at v1, v2⟩
    ow := fun i m h => by
      rcases ro0_im h with z | ⟨x, h1, h2⟩
      · cases z
      · cases h2
    pm := fun i m h => by
      rcases ro0_im h with z | ⟨x, h1, h2⟩
      · cases z
      · cases h2
    sep := fun i j m m' a h => by
      rcases ro0_im h with z | ⟨x, h1, h2⟩
      · cases z
      · cases h2 }
  have fin : ∀ {O' : Addr → Bool} {σ' : St} {H' : Hp} {ρ' : Ro} {v : V} {d' : Dt}, d' = d → Rel F O' H' σ' ρ' → Rp K cl (hide O' H') v d' → Q v H' := fun {O' σ' H' ρ' v d'} e R' rv => by
    subst e
    refine k v H' (fun a o h => R'.kp a o h (fun z => by cases z)) (rv.mono fun a o h => ?_)
    obtain ⟨h1, h2⟩ := hide_at.mp h
    refine hide_at.mpr ⟨?_, h2⟩
    cases e : O a with
    | false => rfl
    | true =>
      rw [R'.sub a e] at h1
      cases h1
  refine h F rfl rfl ds d hr O (start N vs) H { nx := fun _ H' => Q .non H', rt := Q } R0 (fun O' σ' H' ρ' hn _ R' => ?_) (fun O' σ' H' ρ' d' v hd _ R' rv => fin hd R' rv) (fun _ _ _ _ hn _ _ => hn.elim) (fun _ _ _ _ hn _ _ => hn.elim)
  have hn : d = .non := hn
  exact fin hn.symm R' .non
def ro1 (N : List Str) (s : Int) (ds : List Dt) : Ro := .pm s :: ro0 N.tail ds
/-- what a body of SpM R is to reach -/
def endM (d : Dt) (s' : Int) : Pd := ⟨fun _ => False, fun d' ρ' => d' = d ∧ ρ'[0]? = some (.pm s'), fun _ => False, fun _ => False⟩
theorem spM_read {K : PySem.W.Frag} {cl : Nat → Addr} {R : Int → List Dt → Dt → Int → Prop} {n0 : Str} {N : List Str} {t : TS} (hN : ∀ s ds d s', R s ds d s' → ds.length ≤ N.length)
    (h : ∀ (F : Fx), F.K = K → F.cl = cl → ∀ s ds d s', R s ds d s' → Wp F t (ro1 (n0 :: N) s ds) (endM d s')) : ∀ vs H Q E, SpM K cl R vs H Q E → t { nx := fun _ H' => Q .non H', rt := Q } (start (n0 :: N) vs) H := fun vs H Q E hq => by
  obtain ⟨O, a, us, s, ds, d, s', rfl, hr, al, hO, ha, ra, k⟩ := hq
  have hl := ra.length
  have hN' := hN s ds d s' hr
  let F : Fx := ⟨K, cl, H, O, some a⟩
  have es : start (n0 :: N) (.ref a :: us) = some (.ref a) :: start N us := by
    unfold L2.start
    rw [List.map_cons, List.cons_append, List.length_cons, List.length_cons, Nat.add_sub_add_right]
  have R0 : Rel F O H (start (n0 :: N) (.ref a :: us)) (ro1 (n0 :: N) s ds) := {
    len := by
      rw [start_len _ _ (by rw [List.length_cons, List.length_cons]; omega)]
      unfold ro1 ro0
      rw [List.length_cons, List.length_cons, List.length_append, List.length_map, List.length_replicate]
      show N.length + 1 = ds.length + (N.length - ds.length) + 1
      omega
    sub := fun a h => h
    al := al
    mb := fun b h => by
      cases h
      exact hO
    fr := fun a h hb => by
      have hb : O a = false := hb
      rw [h] at hb
      cases hb
    kp := fun a o h _ => h
    im := fun i e h => by
      rw [es]
      cases i with
      | zero => cases h
      | succ i =>
        rcases ro0_im (show (ro0 N ds)[i]? = some (.im e) from h) with z | ⟨x, h1, h2⟩
        · cases z
        · cases h2
          obtain ⟨v, v1, v2⟩ := ra.get h1
          exact ⟨v, start_at (N := N) v1, v2⟩
    ow := fun i m h => by
      cases i with
      | zero => cases h
      | succ i =>
        rcases ro0_im (show (ro0 N ds)[i]? = some (.ow m) from h) with z | ⟨x, h1, h2⟩
        · cases z
        · cases h2
    pm := fun i m h => by
      rw [es]
      cases i with
      | zero =>
        cases h
        exact ⟨a, rfl, rfl, ha⟩
      | succ i =>
        rcases ro0_im (show (ro0 N ds)[i]? = some (.pm m) from h) with z | ⟨x, h1, h2⟩
        · cases z
        · cases h2
    sep := fun i j m m' a h => by
      cases i with
      | zero => cases h
      | succ i =>
        rcases ro0_im (show (ro0 N ds)[i]? = some (.ow m) from h) with z | ⟨x, h1, h2⟩
        · cases z
        · cases h2 }
  refine h F rfl rfl s ds d s' hr O _ H { nx := fun _ H' => Q .non H', rt := Q } R0 (fun O' σ' H' ρ' hn _ R' => hn.elim) (fun O' σ' H' ρ' d' v hd _ R' rv => ?_) (fun _ _ _ _ hn _ _ => hn.elim) (fun _ _ _ _ hn _ _ => hn.elim)
  obtain ⟨e1, e2⟩ := hd
  subst e1
  obtain ⟨b, b0, b1, b2⟩ := R'.pm 0 s' e2
  cases b0
  refine k v H' (fun x o n h => R'.kp x o h (fun z => n (Option.some.inj z).symm)) b2 (rv.mono fun a o h => ?_)
  obtain ⟨h1, h2⟩ := hide_at.mp h
  refine hide_at.mpr ⟨?_, h2⟩
  cases e : O a with
  | false => rfl
  | true =>
    rw [R'.sub a e] at h1
    cases h1
end
end Md
namespace Md
open PySem L2
open Evl (Ex ex_l ex_t sz_of sz_lt fresh_back)
/-! ### the operators' readings by short names -/
abbrev qAdd : R2 := rI0 fun i j => .int (i + j)
abbrev qSub : R2 := rI0 fun i j => .int (i - j)
abbrev qMul : R2 := rI CMul fun i j => .int (i * j)
abbrev qMulW : R2 := rI CMulW fun i j => .int (i * j)
abbrev qDiv : R2 := rI CDivW fun i j => .int (i / j)
abbrev qMod : R2 := rI (fun _ j => 0 < j) fun i j => .int (i % j)
abbrev qShl : R2 := rI CPow fun i j => .int (i * 2 ^ j.toNat)
abbrev qAnd : R2 := rI0 fun i j => .int (Builtin.bitAnd i j)
abbrev qOr : R2 := rI0 fun i j => .int (Builtin.bitOr i j)
abbrev qLt : R2 := rI0 fun i j => .bl (decide (i < j))
abbrev qLe : R2 := rI0 fun i j => .bl (decide (i ≤ j))
abbrev qGt : R2 := rI0 fun i j => .bl (decide (j < i))
abbrev qGe : R2 := rI0 fun i j => .bl (decide (j ≤ i))
def qAddS : R2 := fun x y H Q => ∃ i j, x = .str i ∧ y = .str j ∧ i.length + j.length ≤ sizeLine ∧ Q (.str (i ++ j)) H
def qInS : R2 := fun x y H Q => ∃ (c : Nat) (z : Str), x = .str ⟨#[c]⟩ ∧ y = .str z ∧ Q (.bl (decide (c ∈ z.cps.toList))) H
def qCat (K : PySem.W.Frag) : R2 := fun x y H Q => ∃ l b xs zs, x = .ref l ∧ y = .ref b ∧ SqL K H l xs ∧ SqL K H b zs ∧ xs.length + zs.length ≤ sizeLine ∧ ∀ p, H p = none → Q (.ref p) (upd H p (.lst (xs ++ zs)))
/-- ** where the result stays below some millions of bits -/
def qPow : R2 := fun x y H Q => ∃ i j : Int, x = .int i ∧ y = .int j ∧ 0 ≤ j ∧ (Builtin.Int.intBits i : Int) * j ≤ 2 ^ 27 ∧ Q (.int (i ^ j.toNat)) H
section
variable {X : Cx}
theorem op_addS : OpR X (binaryOp .Add) qAddS := op_add_str
theorem op_inS : OpR X (compareOp .In) qInS := op_in_sign
theorem op_catL : OpR X (binaryOp .Add) (qCat X.K) := by
  intro pins s σ H x y v u Q I rx ry h
  obtain ⟨l, b, xs, zs, rfl, rfl, hH, hB, hz, q⟩ := h
  cases rx
  cases ry
  obtain ⟨its, r, hl, e⟩ := I.list hH
  obtain ⟨its2, r2, hl2, e2⟩ := I.list hB
  obtain ⟨⟨cls, dd, data, sl⟩, ho, hc, n, hd⟩ := hl.isList
  obtain ⟨⟨cls2, dd2, data2, sl2⟩, ho2, hc2, n2, hd2⟩ := hl2.isList
  simp only at hc hd hc2 hd2
  subst hc hd hc2 hd2
  have ea : its.toArray ++ its2.toArray = (its ++ its2).toArray := by simp
  refine PySem.concat_meets ⟨_, ho, rfl⟩ ⟨_, ho2, rfl⟩ PySem.noFill_list_add PySem.seq_list_add PySem.F.slot_list_add PySem.F.entry_list_add (PySem.F.args_list_add_2 _ _)
    (PyProof.Rows.list_addW l b its.toArray its2.toArray n n2 dd dd2 sl sl2 (by rw [List.size_toArray, List.size_toArray, ← r.length, ← r2.length]; exact hz)) ⟨ho, ho2, ?_⟩
  rw [ea]
  exact ⟨.ref _, _, I.lnew (t' := s.toks) (r.append r2) (by rw [List.length_append]; exact hz), rfl, q _ I.fresh⟩
theorem op_powW : OpR X (binaryOp .Pow) qPow := by
  intro pins s σ H x y v u Q I rx ry h
  obtain ⟨i, j, rfl, rfl, h0, hz, q⟩ := h
  obtain ⟨t, rfl⟩ := rx
  obtain ⟨t', rfl⟩ := ry
  exact PyProof.Rows.pow_int h0 hz ⟨.int _, H, I.tok _, ⟨_, rfl⟩, q⟩
end
section
variable {F : Fx} {ρ ρ1 ρ2 ρ3 : Ro} {d d1 d2 d3 : Dt} {ta tb tc te : TE} {t u : TT} {a b : Bool} {i j : Int}
theorem rv_i0 {g : Int → Int → V} {z : Dt} (hz : ∀ H, Rp F.K F.cl H (g i j) z) : Rv F (rI0 g) (.int i) (.int j) z := fun x y O H al rx ry Q q => by
  cases rx
  cases ry
  exact ⟨i, j, rfl, rfl, q _ H (Ex.refl H) (hz _)⟩
theorem rv_i {C : Int → Int → Prop} {g : Int → Int → V} {z : Dt} (hc : C i j) (hz : ∀ H, Rp F.K F.cl H (g i j) z) : Rv F (rI C g) (.int i) (.int j) z := fun x y O H al rx ry Q q => by
  cases rx
  cases ry
  exact ⟨i, j, rfl, rfl, hc, q _ H (Ex.refl H) (hz _)⟩
theorem rv_add : Rv F qAdd (.int i) (.int j) (.int (i + j)) := rv_i0 fun _ => .int _
theorem rv_sub : Rv F qSub (.int i) (.int j) (.int (i - j)) := rv_i0 fun _ => .int _
theorem rv_mul (h : CMul i j) : Rv F qMul (.int i) (.int j) (.int (i * j)) := rv_i h fun _ => .int _
theorem rv_mulW (h : CMulW i j) : Rv F qMulW (.int i) (.int j) (.int (i * j)) := rv_i h fun _ => .int _
theorem rv_div (h : CDivW i j) : Rv F qDiv (.int i) (.int j) (.int (i / j)) := rv_i h fun _ => .int _
theorem rv_mod (h : 0 < j) : Rv F qMod (.int i) (.int j) (.int (i % j)) := rv_i h fun _ => .int _
theorem rv_shl (h : CPow i j) : Rv F qShl (.int i) (.int j) (.int (i * 2 ^ j.toNat)) := rv_i h fun _ => .int _
theorem rv_and : Rv F qAnd (.int i) (.int j) (.int (Builtin.bitAnd i j)) := rv_i0 fun _ => .int _
theorem rv_or : Rv F qOr (.int i) (.int j) (.int (Builtin.bitOr i j)) := rv_i0 fun _ => .int _
theorem rv_lt : Rv F qLt (.int i) (.int j) (.bl (decide (i < j))) := rv_i0 fun _ => .bl _
theorem rv_le : Rv F qLe (.int i) (.int j) (.bl (decide (i ≤ j))) := rv_i0 fun _ => .bl _
theorem rv_gt : Rv F qGt (.int i) (.int j) (.bl (decide (j < i))) := rv_i0 fun _ => .bl _
theorem rv_ge : Rv F qGe (.int i) (.int j) (.bl (decide (j ≤ i))) := rv_i0 fun _ => .bl _
theorem rv_pow (h0 : 0 ≤ j) (h : (Builtin.Int.intBits i : Int) * j ≤ 2 ^ 27) : Rv F qPow (.int i) (.int j) (.int (i ^ j.toNat)) := fun x y O H al rx ry Q q => by
  cases rx
  cases ry
  exact ⟨i, j, rfl, rfl, h0, h, q _ H (Ex.refl H) (.int _)⟩
theorem rv_addS {x y : Str} (h : x.length + y.length ≤ 100000) : Rv F qAddS (.str x) (.str y) (.str (x ++ y)) := fun v w O H al rx ry Q q => by
  cases rx
  cases ry
  exact ⟨x, y, rfl, rfl, sz_of h, q _ H (Ex.refl H) (.str _)⟩
theorem rv_inS {c : Nat} {z : Str} : Rv F qInS (.str ⟨#[c]⟩) (.str z) (.bl (decide (c ∈ z.cps.toList))) := fun v w O H al rx ry Q q => by
  cases rx
  cases ry
  exact ⟨c, z, rfl, rfl, q _ H (Ex.refl H) (.bl _)⟩
/-- == of numbers and texts -/
theorem rv_eqI : Rv F rEq (.int i) (.int j) (.bl (decide (i = j))) := fun v w O H al rx ry Q q => by
  cases rx
  cases ry
  refine ⟨rfl, q _ H (Ex.refl H) ?_⟩
  rw [dec_int, Bool.beq_eq_decide_eq]
  exact .bl _
theorem rv_neI : Rv F rNe (.int i) (.int j) (.bl (!decide (i = j))) := fun v w O H al rx ry Q q => by
  cases rx
  cases ry
  refine ⟨rfl, q _ H (Ex.refl H) ?_⟩
  rw [dec_int, Bool.beq_eq_decide_eq]
  exact .bl _
theorem rv_eqS {x y : Str} : Rv F rEq (.str x) (.str y) (.bl (decide (x = y))) := fun v w O H al rx ry Q q => by
  cases rx
  cases ry
  refine ⟨rfl, q _ H (Ex.refl H) ?_⟩
  rw [dec_str, Bool.beq_eq_decide_eq]
  exact .bl _
theorem rv_neS {x y : Str} : Rv F rNe (.str x) (.str y) (.bl (!decide (x = y))) := fun v w O H al rx ry Q q => by
  cases rx
  cases ry
  refine ⟨rfl, q _ H (Ex.refl H) ?_⟩
  rw [dec_str, Bool.beq_eq_decide_eq]
  exact .bl _
theorem rv_eqIS {y : Str} : Rv F rEq (.int i) (.str y) (.bl false) := fun v w O H al rx ry Q q => by
  cases rx
  cases ry
  exact ⟨rfl, q _ H (Ex.refl H) (by rw [decide_eq_false (fun z => V.noConfusion z)]; exact .bl _)⟩
theorem rv_eqSI {x : Str} : Rv F rEq (.str x) (.int j) (.bl false) := fun v w O H al rx ry Q q => by
  cases rx
  cases ry
  exact ⟨rfl, q _ H (Ex.refl H) (by rw [decide_eq_false (fun z => V.noConfusion z)]; exact .bl _)⟩
theorem rv_neIS {y : Str} : Rv F rNe (.int i) (.str y) (.bl true) := fun v w O H al rx ry Q q => by
  cases rx
  cases ry
  exact ⟨rfl, q _ H (Ex.refl H) (by rw [decide_eq_false (fun z => V.noConfusion z)]; exact .bl _)⟩
theorem rv_neSI {x : Str} : Rv F rNe (.str x) (.int j) (.bl true) := fun v w O H al rx ry Q q => by
  cases rx
  cases ry
  exact ⟨rfl, q _ H (Ex.refl H) (by rw [decide_eq_false (fun z => V.noConfusion z)]; exact .bl _)⟩
theorem rv_notB : Rv F rNotB (.bl a) (.bl b) (.bl (!decide (a = b))) := fun v w O H al rx ry Q q => by
  cases rx
  cases ry
  exact ⟨a, b, rfl, rfl, q _ H (Ex.refl H) (.bl _)⟩
/-! ### items, slices, sums of tuples -/
theorem rv_ixT {ds : List Dt} {k : Nat} (h : ds[k]? = some d) : Rv F (rIxT F.K) (.tup ds) (.int (k : Int)) d := fun v w O H al rx ry Q q => by
  cases rx with
  | tup hs ha =>
    cases ry
    obtain ⟨z, hz, rz⟩ := ha.get h
    exact ⟨_, _, _, z, rfl, rfl, SqT.of (hide_ex O H _ _ hs), atI_nat hz, q z H (Ex.refl H) rz⟩
theorem rv_ixL {ds : List Dt} {k : Nat} (h : ds[k]? = some d) : Rv F (rIxL F.K) (.lst ds) (.int (k : Int)) d := fun v w O H al rx ry Q q => by
  cases rx with
  | lst hs ha =>
    cases ry
    obtain ⟨z, hz, rz⟩ := ha.get h
    exact ⟨_, _, _, z, rfl, rfl, ex_l (hide_ex O H) hs, atI_nat hz, q z H (Ex.refl H) rz⟩
theorem rv_ixS {x : Str} {k c : Nat} (hl : x.length ≤ 100000) (h : x.cps.toList[k]? = some c) : Rv F rIxS (.str x) (.int (k : Int)) (.str ⟨#[c]⟩) := fun v w O H al rx ry Q q => by
  cases rx
  cases ry
  exact ⟨x, (k : Int), c, rfl, rfl, sz_of hl, atI_nat h, q _ H (Ex.refl H) (.str _)⟩
/-- an index written as a number of its own -/
theorem rv_at {r : R2} {k : Nat} (e : i = (k : Int)) (h : Rv F r d1 (.int (k : Int)) d) : Rv F r d1 (.int i) d := by
  rw [e]
  exact h
def cutD (xs : List Dt) (lo hi : Option Int) : List Dt := (xs.drop (HT.sIx xs.length 0 lo)).take (HT.sIx xs.length xs.length hi - HT.sIx xs.length 0 lo)
theorem cutD_whole {xs : List Dt} {lo hi : Option Int} (h1 : HT.sIx xs.length 0 lo = 0) (h2 : HT.sIx xs.length xs.length hi = xs.length) : cutD xs lo hi = xs := by
  unfold cutD
  rw [h1, h2, List.drop_zero, Nat.sub_zero, List.take_length]
theorem cut_rp {K : PySem.W.Frag} {cl : Nat → Addr} {H : Hp} {xs : List V} {ds : List Dt} (r : RpA K cl H xs ds) (lo hi : Option Int) : RpA K cl H (cutV xs lo hi) (cutD ds lo hi) := by
  unfold cutV cutD
  rw [r.length]
  exact (r.drop _).take _
theorem rs_tup {ds : List Dt} {lo hi : Option Int} : Rs F (rSlA F.K) (.tup ds) lo hi (.tup (cutD ds lo hi)) := fun v O H al rx Q q => by
  cases rx with
  | @tup a vs _ hs ha =>
    refine ⟨a, vs, rfl, SqT.of (hide_ex O H _ _ hs), fun hw => ?_, fun hw p hp => q _ _ (Ex.new hp) (Rp.tupNew (no_of al hp) hp (cut_rp ha lo hi))⟩
    rw [ha.length] at hw
    rw [cutD_whole hw.1 hw.2] at q
    exact q _ H (Ex.refl H) (.tup hs ha)
theorem rs_lst {ds : List Dt} {lo hi : Option Int} : Rs F (rSlL F.K) (.lst ds) lo hi (.lst (cutD ds lo hi)) := fun v O H al rx Q q => by
  cases rx with
  | @lst a vs _ hs ha => exact ⟨a, vs, rfl, ex_l (hide_ex O H) hs, fun p hp => q _ _ (Ex.new hp) (Rp.lstNew (no_of al hp) hp (cut_rp ha lo hi))⟩
theorem rs_str {x : Str} {lo hi : Option Int} (h : x.length ≤ 100000) : Rs F rSlS (.str x) lo hi (.str (cutS x lo hi)) := fun v O H al rx Q q => by
  cases rx
  exact ⟨x, rfl, sz_of h, q _ H (Ex.refl H) (.str _)⟩
theorem rv_catT {ds es : List Dt} (h : ds.length + es.length ≤ 100000) : Rv F (rCatA F.K) (.tup ds) (.tup es) (.tup (ds ++ es)) := fun v w O H al rx ry Q q => by
  cases rx with
  | @tup a xs _ hs ha =>
    cases ry with
    | @tup b ys _ ht hb =>
      refine ⟨a, b, xs, ys, rfl, rfl, SqT.of (hide_ex O H _ _ hs), SqT.of (hide_ex O H _ _ ht), sz_of (by rw [ha.length, hb.length]; exact h), fun e => ?_, fun e1 e2 => ?_, fun e1 e2 p hp => q _ _ (Ex.new hp) (Rp.tupNew (no_of al hp) hp (ha.append hb))⟩
      · subst e
        cases ha
        exact q _ H (Ex.refl H) (.tup ht hb)
      · subst e2
        cases hb
        rw [List.append_nil] at q
        exact q _ H (Ex.refl H) (.tup hs ha)
/-! ### flat membership -/
def flatD : Dt → Bool
  | .int _ => true
  | .str _ => true
  | _ => false
def eqF : Dt → Dt → Bool
  | .int i, .int j => i == j
  | .str x, .str y => x == y
  | _, _ => false
theorem flat_rp {K : PySem.W.Frag} {cl : Nat → Addr} {H : Hp} {v : V} {d : Dt} (r : Rp K cl H v d) (f : flatD d = true) : flatV v = true := by
  cases r <;> first | rfl | cases f
theorem eqF_rp {K : PySem.W.Frag} {cl : Nat → Addr} {H H' : Hp} {v w : V} {d e : Dt} (r : Rp K cl H v d) (s : Rp K cl H' w e) (f : flatD d = true) (g : flatD e = true) : eqV v w = eqF d e := by
  cases r <;> cases s <;> first | rfl | (cases f; done) | (cases g; done)
theorem flat_all {K : PySem.W.Frag} {cl : Nat → Addr} {H : Hp} : ∀ {vs : List V} {ds : List Dt}, RpA K cl H vs ds → ds.all flatD = true → vs.all flatV = true
  | _, _, .nil, _ => rfl
  | _, _, .cons h r, f => by
    rw [List.all_cons, Bool.and_eq_true] at f
    rw [List.all_cons, flat_rp h f.1, flat_all r f.2]
    rfl
theorem inF_rp {K : PySem.W.Frag} {cl : Nat → Addr} {H H' : Hp} {x : V} {d : Dt} (s : Rp K cl H' x d) (g : flatD d = true) : ∀ {vs : List V} {ds : List Dt}, RpA K cl H vs ds → ds.all flatD = true → inV x vs = ds.any fun z => eqF z d
  | _, _, .nil, _ => rfl
  | _, _, .cons h r, f => by
    rw [List.all_cons, Bool.and_eq_true] at f
    have ih := inF_rp s g r f.2
    unfold inV at ih ⊢
    rw [List.any_cons, List.any_cons, ih, eqF_rp h s f.1 g]
theorem rv_inF {neg : Bool} {ds : List Dt} (hd : flatD d = true) (hs : ds.all flatD = true) (y : Dt) (hy : y = .lst ds ∨ y = .tup ds) : Rv F (rIn F.K neg) d y (.bl (if neg then !(ds.any fun z => eqF z d) else ds.any fun z => eqF z d)) := fun v w O H al rx ry Q q => by
  rcases hy with e | e
  · subst e
    cases ry with
    | lst hl ha =>
      refine ⟨_, _, rfl, .inl (ex_l (hide_ex O H) hl), flat_rp rx hd, flat_all ha hs, ?_⟩
      rw [inF_rp rx hd ha hs]
      exact q _ H (Ex.refl H) (.bl _)
  · subst e
    cases ry with
    | tup hl ha =>
      refine ⟨_, _, rfl, .inr (SqT.of (hide_ex O H _ _ hl)), flat_rp rx hd, flat_all ha hs, ?_⟩
      rw [inF_rp rx hd ha hs]
      exact q _ H (Ex.refl H) (.bl _)
/-! ### lengths, sums, any, all, least, greatest -/
theorem rc_lenL {ds : List Dt} : Rc F (fun xs H Q => ∃ p ys, xs = [V.ref p] ∧ (SqL F.K H p ys ∨ SqT F.K H p ys) ∧ Q (.int ys.length) H) [.lst ds] (.int (ds.length : Nat)) := fun xs O H al r Q q => by
  obtain ⟨v, w, e, r1, r2⟩ := r.cons_inv
  rw [r2.nil_inv] at e
  subst e
  cases r1 with
  | lst hl ha => exact ⟨_, _, rfl, .inl (ex_l (hide_ex O H) hl), q _ H (Ex.refl H) (by rw [ha.length]; exact .int _)⟩
def rLen (K : PySem.W.Frag) : List V → Hp → VK → Prop := fun xs H Q => ∃ p ys, xs = [V.ref p] ∧ (SqL K H p ys ∨ SqT K H p ys) ∧ Q (.int ys.length) H
def rLenZ : List V → Hp → VK → Prop := fun xs H Q => ∃ z, xs = [V.str z] ∧ z.length ≤ sizeLine ∧ Q (.int z.length) H
theorem call_lenQ {X : Cx} : CallR X (.builtin "len") (rLen X.K) := call_len_seq
theorem call_lenZ {X : Cx} : CallR X (.builtin "len") rLenZ := call_len_str
theorem rc_len {ds : List Dt} {y : Dt} (hy : y = .lst ds ∨ y = .tup ds) : Rc F (rLen F.K) [y] (.int (ds.length : Nat)) := fun xs O H al r Q q => by
  obtain ⟨v, w, e, r1, r2⟩ := r.cons_inv
  rw [r2.nil_inv] at e
  subst e
  rcases hy with e | e
  · subst e
    cases r1 with
    | lst hl ha => exact ⟨_, _, rfl, .inl (ex_l (hide_ex O H) hl), q _ H (Ex.refl H) (by rw [ha.length]; exact .int _)⟩
  · subst e
    cases r1 with
    | tup hl ha => exact ⟨_, _, rfl, .inr (SqT.of (hide_ex O H _ _ hl)), q _ H (Ex.refl H) (by rw [ha.length]; exact .int _)⟩
theorem rc_lenZ {x : Str} (h : x.length ≤ 100000) : Rc F rLenZ [.str x] (.int (x.length : Nat)) := fun xs O H al r Q q => by
  obtain ⟨v, w, e, r1, r2⟩ := r.cons_inv
  rw [r2.nil_inv] at e
  subst e
  cases r1
  exact ⟨x, rfl, sz_of h, q _ H (Ex.refl H) (.int _)⟩
theorem rc_sum {ns : List Int} : Rc F (rSum F.K) [.lst (ns.map .int)] (.int ns.sum) := fun xs O H al r Q q => by
  obtain ⟨v, w, e, r1, r2⟩ := r.cons_inv
  rw [r2.nil_inv] at e
  subst e
  cases r1 with
  | lst hl ha =>
    rw [ha.ints] at hl
    exact ⟨_, ns, rfl, ex_l (hide_ex O H) hl, q _ H (Ex.refl H) (.int _)⟩
theorem rc_any {bs : List Bool} : Rc F (rAny F.K) [.lst (bs.map .bl)] (.bl (bs.any id)) := fun xs O H al r Q q => by
  obtain ⟨v, w, e, r1, r2⟩ := r.cons_inv
  rw [r2.nil_inv] at e
  subst e
  cases r1 with
  | lst hl ha =>
    rw [ha.bools] at hl
    exact ⟨_, bs, rfl, ex_l (hide_ex O H) hl, q _ H (Ex.refl H) (.bl _)⟩
theorem rc_all {bs : List Bool} : Rc F (rAll F.K) [.lst (bs.map .bl)] (.bl (bs.all id)) := fun xs O H al r Q q => by
  obtain ⟨v, w, e, r1, r2⟩ := r.cons_inv
  rw [r2.nil_inv] at e
  subst e
  cases r1 with
  | lst hl ha =>
    rw [ha.bools] at hl
    exact ⟨_, bs, rfl, ex_l (hide_ex O H) hl, q _ H (Ex.refl H) (.bl _)⟩
theorem rc_min {ns : List Int} {m : Int} (hm : m ∈ ns) (h : ∀ y ∈ ns, m ≤ y) : Rc F (rMin F.K) [.lst (ns.map .int)] (.int m) := fun xs O H al r Q q => by
  obtain ⟨v, w, e, r1, r2⟩ := r.cons_inv
  rw [r2.nil_inv] at e
  subst e
  cases r1 with
  | lst hl ha =>
    rw [ha.ints] at hl
    refine ⟨_, ns, rfl, ex_l (hide_ex O H) hl, List.length_pos_of_mem hm, fun z hz hz2 => ?_⟩
    have e : z = m := Int.le_antisymm (hz2 m hm) (h z hz)
    rw [e]
    exact q _ H (Ex.refl H) (.int _)
theorem rc_max {ns : List Int} {m : Int} (hm : m ∈ ns) (h : ∀ y ∈ ns, y ≤ m) : Rc F (rMax F.K) [.lst (ns.map .int)] (.int m) := fun xs O H al r Q q => by
  obtain ⟨v, w, e, r1, r2⟩ := r.cons_inv
  rw [r2.nil_inv] at e
  subst e
  cases r1 with
  | lst hl ha =>
    rw [ha.ints] at hl
    refine ⟨_, ns, rfl, ex_l (hide_ex O H) hl, List.length_pos_of_mem hm, fun z hz hz2 => ?_⟩
    have e : z = m := Int.le_antisymm (h z hz) (hz2 m hm)
    rw [e]
    exact q _ H (Ex.refl H) (.int _)
def rMin2 : List V → Hp → VK → Prop := fun xs H Q => ∃ i j, xs = [V.int i, V.int j] ∧ Q (.int (if j < i then j else i)) H
def rMax2 : List V → Hp → VK → Prop := fun xs H Q => ∃ i j, xs = [V.int i, V.int j] ∧ Q (.int (if j > i then j else i)) H
theorem call_min2Q {X : Cx} (hc : X.calm = true) : CallR X (.builtin "min") rMin2 := call_min2 hc
theorem call_max2Q {X : Cx} (hc : X.calm = true) : CallR X (.builtin "max") rMax2 := call_max2 hc
theorem rc_min2 : Rc F rMin2 [.int i, .int j] (.int (min i j)) := fun xs O H al r Q q => by
  obtain ⟨v, w, e, r1, r2⟩ := r.cons_inv
  obtain ⟨v', w', e', r1', r2'⟩ := r2.cons_inv
  rw [r2'.nil_inv] at e'
  subst e'
  subst e
  cases r1
  cases r1'
  refine ⟨i, j, rfl, ?_⟩
  have z : (if j < i then j else i) = min i j := by
    split <;> omega
  rw [z]
  exact q _ H (Ex.refl H) (.int _)
theorem rc_max2 : Rc F rMax2 [.int i, .int j] (.int (max i j)) := fun xs O H al r Q q => by
  obtain ⟨v, w, e, r1, r2⟩ := r.cons_inv
  obtain ⟨v', w', e', r1', r2'⟩ := r2.cons_inv
  rw [r2'.nil_inv] at e'
  subst e'
  subst e
  cases r1
  cases r1'
  refine ⟨i, j, rfl, ?_⟩
  have z : (if j > i then j else i) = max i j := by
    split <;> omega
  rw [z]
  exact q _ H (Ex.refl H) (.int _)
def rList (K : PySem.W.Frag) : List V → Hp → VK → Prop := fun xs H Q => ∃ p ys, xs = [V.ref p] ∧ (SqL K H p ys ∨ SqT K H p ys) ∧ ∀ l, H l = none → Q (.ref l) (upd H l (.lst ys))
def rTuple (K : PySem.W.Frag) : List V → Hp → VK → Prop := fun xs H Q => ∃ p ys, xs = [V.ref p] ∧ ((SqL K H p ys ∧ ∀ l, H l = none → Q (.ref l) (upd H l (.tup ys))) ∨ (SqT K H p ys ∧ Q (.ref p) H))
theorem call_listQ {X : Cx} : CallR X (.type "list") (rList X.K) := call_list_of
theorem call_tupleQ {X : Cx} : CallR X (.type "tuple") (rTuple X.K) := call_tuple_of
theorem rc_list {ds : List Dt} {y : Dt} (hy : y = .lst ds ∨ y = .tup ds) : Rc F (rList F.K) [y] (.lst ds) := fun xs O H al r Q q => by
  obtain ⟨v, w, e, r1, r2⟩ := r.cons_inv
  rw [r2.nil_inv] at e
  subst e
  rcases hy with e | e
  · subst e
    cases r1 with
    | lst hl ha => exact ⟨_, _, rfl, .inl (ex_l (hide_ex O H) hl), fun l hp => q _ _ (Ex.new hp) (Rp.lstNew (no_of al hp) hp ha)⟩
  · subst e
    cases r1 with
    | tup hl ha => exact ⟨_, _, rfl, .inr (SqT.of (hide_ex O H _ _ hl)), fun l hp => q _ _ (Ex.new hp) (Rp.lstNew (no_of al hp) hp ha)⟩
theorem rc_tuple {ds : List Dt} {y : Dt} (hy : y = .lst ds ∨ y = .tup ds) : Rc F (rTuple F.K) [y] (.tup ds) := fun xs O H al r Q q => by
  obtain ⟨v, w, e, r1, r2⟩ := r.cons_inv
  rw [r2.nil_inv] at e
  subst e
  rcases hy with e | e
  · subst e
    cases r1 with
    | lst hl ha => exact ⟨_, _, rfl, .inl ⟨ex_l (hide_ex O H) hl, fun l hp => q _ _ (Ex.new hp) (Rp.tupNew (no_of al hp) hp ha)⟩⟩
  · subst e
    cases r1 with
    | tup hl ha => exact ⟨_, _, rfl, .inr ⟨SqT.of (hide_ex O H _ _ hl), q _ H (Ex.refl H) (.tup hl ha)⟩⟩
end
end Md
namespace Md
open PySem PySem.Spec PyProof.Rows L2
/-! ### calls of the text's own defs -/
structure OkF (P : Program) (w : World) (K : PySem.W.Frag) (mg : Str → Option Value) (base : Heap) (x : Str) (k : Nat) (ps : List Str) (sp : Sp) : Prop where
  ex : ∃ (f : Addr) (fd : FuncData), mg x = some (.ref f) ∧ PySem.W.keepIn K (.ref f) = true ∧ Binds K fd ps [] ∧ FnOk P w K mg base CX0 k f fd ps sp
structure OkM (P : Program) (w : World) (K : PySem.W.Frag) (mg : Str → Option Value) (base : Heap) (C : Addr) (m : Str) (k : Nat) (ps : List Str) (sp : Sp) : Prop where
  ex : ∃ (f : Addr) (fd : FuncData), Meth K C m f ∧ Binds K fd ps [] ∧ FnOk P w K mg base CX0 k f fd ps sp
structure OkI (P : Program) (w : World) (K : PySem.W.Frag) (mg : Str → Option Value) (base : Heap) (x : Str) (C : Addr) (k : Nat) (ps : List Str) (sp : Sp) : Prop where
  ex : ∃ (f : Addr) (fd : FuncData), mg x = some (.ref C) ∧ Mk K C f ∧ Binds K fd ps [] ∧ FnOk P w K mg base CX0 k f fd ps sp
section
variable {X : Cx} {k : Nat} {C : Addr} {ps : List Str} {sp : Sp} {x m : Str} {p pos apos : Pos} {e o : Expr} {es : List Expr} {ta : TE} {t : TA}
theorem pe_cF (h : OkF X.prog X.w X.K X.mg X.base x k ps sp) (hr : Room k X.A) (hg : Gl X x) (ha : PA X (e :: es) t) (hdb : (x == ("__debug__" : Str)) = false := by decide) (he : starEach (e :: es) X.env = (false, eval e X.env) :: starEach es X.env := by rfl)
    (hpl : (backTo pos (starEach es X.env)).any (·.1) = false := by rfl) : PE X (.Call (.Name x p) (e :: es) [] pos) (tCall sp [] E0 t) := by
  obtain ⟨f, fd, hm, hk, hb, F⟩ := h.ex
  exact pe_call F hr hg hm hk hb .nil pass0 ha hdb he hpl
theorem pe_mF {pl : Sem Bool} (he : PE X o ta) (c : Cls X.K C) (h : OkM X.prog X.w X.K X.mg X.base C m k ps sp) (hr : Room k X.A) (ha : PA X (e :: es) t)
    (hst : starEach (e :: es) X.env = (false, eval e X.env) :: starEach es X.env := by rfl) (hpl : (backTo pos (starEach es X.env)).any (·.1) = false := by rfl)
    (ht : eval (.Call (.Attribute o m apos) (e :: es) [] pos) X.env = (do
      let ov ← eval o X.env
      standAt apos.atName
      let (f, first) ← holding [ov] (getMethod ov m pl)
      callWith pos f first (backTo pos (starEach (e :: es) X.env)) (backToKw pos (keywordEach [] X.env))) := by rfl) : PE X (.Call (.Attribute o m apos) (e :: es) [] pos) (tMeth C m sp [] E0 ta t) := by
  obtain ⟨f, fd, hm, hb, F⟩ := h.ex
  exact pe_meth he c hm F hr hb .nil pass0 ha hst hpl ht
theorem pe_mkF (h : OkI X.prog X.w X.K X.mg X.base x C k ps sp) (hr : Room (k + 1) X.A) (hg : Gl X x) (ha : PA X (e :: es) t) (hdb : (x == ("__debug__" : Str)) = false := by decide) (he : starEach (e :: es) X.env = (false, eval e X.env) :: starEach es X.env := by rfl)
    (hpl : (backTo pos (starEach es X.env)).any (·.1) = false := by rfl) : PE X (.Call (.Name x p) (e :: es) [] pos) (tMake C sp [] E0 t) := by
  obtain ⟨f, fd, hm, M, hb, F⟩ := h.ex
  exact pe_make M F hr hg hm hb .nil pass0 ha hdb he hpl
theorem hu65 {A : Around} (hr : Room k A) : A.units + 65 < cLine := by
  have := hr.un
  omega
/-- x in a tuple of data of any depth -/
def rInDT (K : PySem.W.Frag) : R2 := fun x y H Q => ∃ d ds, Dp K H x d ∧ Dp K H y (.tuple ds) ∧ SeqAt.shaped d = true ∧ SeqAt.shaped (.tuple ds) = true ∧ Q (.bl (ds.any fun z => PyData.eqv z d)) H
theorem op_inDT (hu : X.A.units + 65 < cLine) : OpR X (compareOp .In) (rInDT X.K) := by
  intro pins s σ H x y v u Q I rx ry h
  obtain ⟨d, ds, hd, he, sd, se, q⟩ := h
  obtain ⟨as, r1⟩ := Dp.reads I d x v hd rx
  obtain ⟨bs, r2⟩ := Dp.reads I (.tuple ds) y u he ry
  exact SeqAt.in_tuple_reads r2 r1 (SeqAt.canLay_of_shaped se) (SeqAt.canLay_of_shaped sd) (room_in_shaped sd hu) ⟨.bl _, H, I, rfl, q⟩
/-- text.index(sign) -/
def rIndexS : V → List V → Hp → VK → Prop := fun x xs H Q => ∃ a b i rest, x = V.str a ∧ xs = [V.str b] ∧ Builtin.Str.occurrences a b 0 a.length 1 = i :: rest ∧ Q (.int (i : Nat)) H
theorem mt_indexS : MtR X "str.index" rIndexS := mt_sindex
def rListDT : List V → Hp → VK → Prop := fun xs H Q => ∃ d kvs, xs = [V.ref d] ∧ Rd H d (.dT kvs) ∧ ∀ p bs, H p = none → IsKeys H kvs bs → Q (.ref p) (upd H p (.lst (bs.map V.ref)))
theorem call_listDT (hc : X.calm = true) : CallR X (.type "list") rListDT := call_list_dT hc
abbrev qNeg : V → Hp → VK → Prop := rU fun i => .int (-i)
end
/-! ### enumerate(a tuple) -/
theorem meets_enumT (l : Addr) (items : Array Value) (n : Nat) (dct : Option Addr) (sl : Array (Option Value)) :
    Meets (Builtin.«enumerate.__new__» ⟨[.type "enumerate", .ref l], []⟩) (fun _ R s => s.heap.get? l = some { cls := .type "tuple", dict := dct, data := .seq items n, slots := sl } ∧
      R (.ok (.ret (.ref (s.heap.push { cls := .type "tuple_iterator", data := .fields #[.ref l, .int 0 0] }).objs.size)))
        { s with heap := (s.heap.push { cls := .type "tuple_iterator", data := .fields #[.ref l, .int 0 0] }).push { cls := .type "enumerate", data := .fields #[.none, .bool false, .ref s.heap.objs.size, rawInt 0, .none, .none] } }) :=
  .of_wp fun prog w A R s h => by
    obtain ⟨hp, g, d, tk, os⟩ := s
    obtain ⟨hl, h⟩ := h
    have hsub := sub_enumerate
    have hL : Heap.IsTuple (Shared.heap ⟨hp, g, d, tk, os⟩) l items := ⟨_, hl, rfl, n, rfl⟩
    wp_walk using AutoSeq1.wpAny_loadPart' hl
    refine wpAny_stack_any fun st => wpAny_pure ?_
    split
    · rename_i c _ _ _ _ _
      cases (c == Value.type "enumerate")
      · wp_walk using AutoSeq1.wpAny_loadPart' hl, wpAny_pyIter_tuple hL
        exact ⟨_, rfl, h⟩
      · wp_walk using AutoSeq1.wpAny_loadPart' hl, wpAny_pyIter_tuple hL
        exact ⟨_, rfl, h⟩
    · wp_walk using AutoSeq1.wpAny_loadPart' hl, wpAny_pyIter_tuple hL
      exact ⟨_, rfl, h⟩
theorem call_enumT {prog : Program} {w : World} {A : Around} {E : Value → Shared → Prop} {s : Shared} {l : Addr} {items : Array Value} {Q : Value → Shared → Prop} (hL : s.heap.IsTuple l items)
    (h : ∀ h', IsEnum h' (s.heap.objs.size + 1) s.heap.objs.size 0 .none → h'.IsTupleIter s.heap.objs.size l 0 → h'.objs.size = s.heap.objs.size + 2 →
      (∀ b o, s.heap.get? b = some o → h'.get? b = some o) → Q (.ref (s.heap.objs.size + 1)) { s with heap := h' }) :
    wpAny (model prog w) A (call (.type "enumerate") [.ref l]) Q E s := by
  obtain ⟨⟨c, dct, dt, sl⟩, hl, hc, n, hd⟩ := hL
  replace hc : c = .type "tuple" := hc
  replace hd : dt = .seq items n := hd
  subst hc hd
  refine callType_new F.called_enumerate (by decide) (F.typeCall_enumerate_1 _) (F.newCall_enumerate_1 _) (fun obj => F.args_object_init_2 obj _) F.entry_enumerate_new (meets_enumT l items n dct sl) ⟨hl, ?_⟩
  have hz : (s.heap.push { cls := .type "tuple_iterator", data := .fields #[.ref l, .int 0 0] }).objs.size = s.heap.objs.size + 1 := Heap.size_push ..
  show _ ∧ _
  rw [hz]
  have he : IsEnum ((s.heap.push { cls := .type "tuple_iterator", data := .fields #[.ref l, .int 0 0] }).push { cls := .type "enumerate", data := .fields #[.none, .bool false, .ref s.heap.objs.size, rawInt 0, .none, .none] }) (s.heap.objs.size + 1) s.heap.objs.size 0 .none := by
    have q := Heap.get?_push_size (s.heap.push { cls := .type "tuple_iterator", data := .fields #[.ref l, .int 0 0] }) (o := { cls := .type "enumerate", data := .fields #[.none, .bool false, .ref s.heap.objs.size, rawInt 0, .none, .none] }) rfl
    rwa [hz] at q
  exact ⟨⟨_, he, rfl⟩, h _ he ⟨_, Heap.get?_push_of_some _ (Heap.get?_push_size _ rfl), rfl, rfl⟩ (by rw [Heap.size_push, hz]) fun b o x => Heap.get?_push_of_some _ (Heap.get?_push_of_some _ x)⟩
def IteT (K : PySem.W.Frag) (a : Addr) : It :=
  ⟨fun i H => ∃ (xs : List V) (x : V), SqT K H a xs ∧ xs[i]? = some x, fun i H v H' => ∃ T x, v = V.ref T ∧ H T = none ∧ H' = upd H T (.tup [.int (i : Nat), x]) ∧ ∀ xs, SqT K H a xs → xs[i]? = some x, fun i H => ∃ xs : List V, SqT K H a xs ∧ xs.length = i⟩
theorem turn_enumT {P : Program} {w : World} {K : PySem.W.Frag} {elts : List Expr} {kk : Nat} {tpos : Pos} (a e it : Addr) :
    Turn P w K (.Tuple elts kk tpos) (IteT K a) [e, it] e (fun i h => (∃ old, IsEnum h e it ((i : Nat) : Int) old) ∧ h.IsTupleIter it a i ∧ e ≠ it ∧ a ≠ it ∧ a ≠ e) where
  mem := by simp
  obj := fun i h st b hb => by
    obtain ⟨⟨old, he⟩, ⟨o, ho, hc, hd⟩, _⟩ := st
    have e' : b = e ∨ b = it := by simpa using hb
    rcases e' with z | z
    · rw [z]
      exact ⟨_, he, fun v q => nomatch q⟩
    · rw [z]
      exact ⟨o, ho, fun v q => by
        rw [hd] at q
        cases q⟩
  keep := fun i h h' st k => by
    obtain ⟨⟨old, he⟩, hi, hne⟩ := st
    exact ⟨⟨old, k e (by simp) _ he⟩, hi.at fun o q => k it (by simp) o q, hne⟩
  item := by
    intro X hP hw hK hc i pins s σ H E I hf st hg
    subst hP hw hK
    obtain ⟨⟨old, he⟩, hit, hne, hai, hae⟩ := st
    obtain ⟨xs, x, hq, hx⟩ := hg
    obtain ⟨its, rv, p, hz⟩ := I.tuple hq
    obtain ⟨u, hu, ru⟩ := rv.get hx
    have hel : e < s.heap.objs.size := Heap.lt_size he
    have hil : it < s.heap.objs.size := by
      obtain ⟨_, q, _⟩ := hit
      exact Heap.lt_size q
    have hin : i < its.toArray.size := by
      have q := (List.getElem?_eq_some_iff.mp hu).1
      rwa [List.size_toArray]
    refine wpAny_pyNext_enum_itemD (Draws.tuple (A := X.A.in1) (I.ok.hd hc) it a hai its.toArray) he ⟨hit, p⟩ hin hne (by simp [hne, Ne.symm hae]) fun y h' tk hy ho hst hT hsz hk => ?_
    have ey : y = u := by
      rw [List.getElem?_toArray, hu] at hy
      exact (Option.some.inj hy).symm
    subst ey
    obtain ⟨hit', p'⟩ := hst
    refine ⟨_, rfl, wpAny_letOwnedTupleGo_enum (s := { s with heap := h', toks := tk + 1 }) ho fun h'' he' sb => ?_⟩
    have hT2 : h''.get? s.heap.objs.size = some { cls := .type "tuple", data := .seq #[.int i tk, y] } := (sb.2 _ (Nat.ne_of_gt hel)).trans hT
    have new : ObjOk X.prog X.w (upd H s.heap.objs.size (.tup [.int (i : Nat), x])) h'' s.heap.objs.size (.tup [.int (i : Nat), x]) :=
      ⟨by show 2 ≤ sizeLine; decide, [.int i tk, y], .cons ⟨_, rfl⟩ (.cons ru .nil), ⟨_, hT2, rfl, _, rfl⟩⟩
    have I1 : Inv X pins σ (upd H s.heap.objs.size (.tup [.int (i : Nat), x])) { s with heap := h'', toks := tk + 1 } :=
      I.turnedNew (ch := [e, it]) (fun b ob hb q => (sb.2 b (fun z => hb (by simp [z]))).trans (hk b ob (fun z => hb (by simp [z])) (fun z => hb (by simp [z])) q)) hf (Nat.le_refl _) new
    refine ⟨.ref s.heap.objs.size, _, I1, rfl, ⟨_, x, rfl, I.hok.fresh (Nat.le_refl _), rfl, fun ys hy => by rw [I.tuple_inj hy hq]; exact hx⟩, ⟨⟨y, ?_⟩, hit'.at fun o q => (sb.2 it (Ne.symm hne)).trans q, hne, hai, hae⟩, fun b hb => ?_⟩
    · have e1 : ((i + 1 : Nat) : Int) = (i : Int) + 1 := by omega
      rw [e1]
      exact he'
    · have hb' : b < s.heap.objs.size := by
        have e' : b = e ∨ b = it := by simpa using hb
        rcases e' with z | z
        · rw [z]
          exact hel
        · rw [z]
          exact hil
      rw [upd_ne (Nat.ne_of_lt hb')]
      exact (hf b hb).1
  done := by
    intro X hP hw hK hc i pins s σ H E I hf st hg
    subst hP hw hK
    obtain ⟨⟨old, he⟩, hit, hne, hai, hae⟩ := st
    obtain ⟨xs, hq, hx⟩ := hg
    obtain ⟨its, rv, p, hz⟩ := I.tuple hq
    obtain ⟨f0, f1, f2, f3, f4, f5⟩ := hf it (by simp)
    have hl := rv.length
    have ei : its.toArray.size = i := by
      rw [List.size_toArray]
      omega
    exact wpAny_pyNext_enum_endD (Draws.tuple (A := X.A.in1) (I.ok.hd hc) it a hai its.toArray) he ⟨by rw [ei]; exact hit, p⟩ fun h' eb => ⟨rfl, I.turned (t' := s.toks) (fun b o hb q => eb b o hb q) f0 f1 f3 f4 f5⟩
  self := fun A i s Q E st h => by
    obtain ⟨⟨_, he⟩, _⟩ := st
    exact wpAny_pyIter_enum he h
def iEnumT (K : PySem.W.Frag) (ta : TA) : TI := fun σ H R => ta σ H fun vs H1 => ∃ a xs, vs = [.ref a] ∧ SqT K H1 a xs ∧ R (IteT K a) H1
theorem pi_enumT {X : Cx} {e : Expr} {ta : TA} {p pos tpos : Pos} {elts : List Expr} {kk : Nat} (hg : Gl X "enumerate") (hm : X.mg "enumerate" = none) (ha : PA X [e] ta) (hs : starEach [e] X.env = [(false, eval e X.env)] := by rfl) :
    PI X (.Tuple elts kk tpos) (.Call (.Name "enumerate" p) [e] [] pos) (iEnumT X.K ta) := by
  refine ⟨fun pins s σ H R I h => ?_⟩
  refine Call_ (ld_blt I hg hm boot_enumerate (PyProof.Rows.callWith_type1 (thn (ha.run pos pins s σ H _ I h) fun us s1 ⟨vs, H1, I1, r1, q1⟩ => ?_) hs rfl))
  obtain ⟨a, xs, ex, hq, q⟩ := q1
  subst ex
  cases r1 with
  | cons r rr =>
    cases rr
    cases r
    obtain ⟨its, rv, p', hz⟩ := I1.tuple hq
    obtain ⟨oa, hoa, _⟩ := id p'
    have hal : a < s1.heap.objs.size := Heap.lt_size hoa
    refine call_enumT p' fun h' he hit hsz hk => wpAny_pyIter_enum he ?_
    have I2 : Inv X pins σ H1 { s1 with heap := h' } := I1.kept (t' := s1.toks) hk
    refine ⟨s1.heap.objs.size + 1, [s1.heap.objs.size + 1, s1.heap.objs.size], _, _, H1, rfl, I2, turn_enumT a (s1.heap.objs.size + 1) s1.heap.objs.size, ⟨⟨.none, he⟩, hit, Nat.succ_ne_self _, Nat.ne_of_lt hal, Nat.ne_of_lt (Nat.lt_succ_of_lt hal)⟩, fun b hb => ?_, q⟩
    have e' : b = s1.heap.objs.size + 1 ∨ b = s1.heap.objs.size := by simpa using hb
    have hle : s1.heap.objs.size ≤ b := by
      rcases e' with z | z
      · rw [z]
        exact Nat.le_add_right _ _
      · rw [z]
        exact Nat.le_refl _
    exact I1.fpOk hle (I1.hok.fresh hle)
end Md
namespace Md
open PySem PySem.Spec PyProof.Rows L2 PySem.W
/-! ### sorted over data of any depth -/
def bsSort (bs : List (V × PyData)) : List (V × PyData) := bs.mergeSort (dataLe false fun b => b.2)
/-- sorted(a list of alike data) -/
def rSortQ (K : PySem.W.Frag) : List V → Hp → VK → Prop := fun xs H Q => ∃ (a : Addr) (bs : List (V × PyData)), xs = [V.ref a] ∧ SqL K H a (bs.map (·.1)) ∧ DpAll K H (bs.map (·.1)) (bs.map (·.2)) ∧ AllAlike (bs.map (·.2)) ∧
  (PySem.W.Sortable (bs.map (·.2)) ∨ bs.length ≤ 1) ∧ (∀ b ∈ bs, b.2.depth ≤ 60) ∧ ∀ p, H p = none → Q (.ref p) (upd H p (.lst ((bsSort bs).map (·.1))))
section
variable {X : Cx} {pins : List (Addr × Obj)} {σ : St} {H : Hp} {s : Shared}
theorem each_rel : ∀ {bs : List (V × PyData)} {its : List Value}, Vals (bs.map (·.1)) its → EachIs (fun (v : Value) (b : V × PyData) => RelV b.1 v) its bs
  | [], _, r => by
    cases r
    exact .nil
  | b :: bs, _, r => by
    cases r with
    | cons h t => exact .cons h (each_rel t)
theorem each_read (I : Inv X pins σ H s) : ∀ {bs : List (V × PyData)} {its : List Value}, Vals (bs.map (·.1)) its → DpAll X.K H (bs.map (·.1)) (bs.map (·.2)) → EachIs (fun (v : Value) (b : V × PyData) => ∃ as, Reads s.heap v b.2 as) its bs
  | [], _, r, _ => by
    cases r
    exact .nil
  | b :: bs, _, r, d => by
    cases r with
    | cons h t =>
      cases d with
      | cons d1 d2 => exact .cons (Dp.reads I b.2 b.1 _ d1 h) (each_read I t d2)
theorem vals_each : ∀ {bs : List (V × PyData)} {its : List Value}, EachIs (fun (v : Value) (b : V × PyData) => RelV b.1 v) its bs → Vals (bs.map (·.1)) its
  | _, _, .nil => .nil
  | _, _, .cons h t => .cons h (vals_each t)
theorem bsSort_len (bs : List (V × PyData)) : (bsSort bs).length = bs.length := List.length_mergeSort ..
theorem bsSort_one {bs : List (V × PyData)} (h : bs.length ≤ 1) : bsSort bs = bs := by
  match bs, h with
  | [], _ => exact List.mergeSort_nil
  | [b], _ => exact List.mergeSort_singleton b
  | _ :: _ :: l, h => exact absurd h (by simp)
theorem perm_one {α : Type} {l m : List α} (h : l.Perm m) (hl : m.length ≤ 1) : l = m := by
  match m, hl with
  | [], _ => exact h.eq_nil
  | [b], _ => exact List.perm_singleton.mp h
  | _ :: _ :: l, h => exact absurd h (by simp)
theorem call_sortedQ (hu : X.A.units + 65 < cLine) : CallR X (.builtin "sorted") (rSortQ X.K) := by
  intro pins s σ H xs us Q I r q
  obtain ⟨a, bs, rfl, hs, hd, hal, hk, hdep, q⟩ := q
  obtain ⟨its, rv, hl, hz⟩ := I.list hs
  rw [Vals.ref1 r]
  have hlen : bs.length ≤ sizeLine := by
    rw [List.length_map] at hz
    exact hz
  have hi : its.length = bs.length := by
    rw [← rv.length, List.length_map]
  have fin : ∀ out : List Value, EachIs (fun (v : Value) (b : V × PyData) => RelV b.1 v) out (bsSort bs) → ∃ (x : V) (H' : Hp), Inv X pins σ H' { s with heap := sortedAll s.heap its out.toArray } ∧ RelV x (.ref (s.heap.objs.size + 1)) ∧ Q x H' := fun out e => by
    obtain ⟨ep, he'⟩ := PyProof.Rows.sortedAll_at s.heap its out.toArray
    have hlen2 : ((bsSort bs).map (·.1)).length ≤ sizeLine := by
      rw [List.length_map, bsSort_len]
      exact hlen
    exact ⟨.ref _, upd H (s.heap.objs.size + 1) (.lst ((bsSort bs).map (·.1))), I.laid (t' := s.toks) (fun _ _ => PyProof.Rows.sortedAll_old) (Nat.le_succ _) ⟨hlen2, out, ep, vals_each e, he'⟩, rfl, q _ (I.hok.fresh (Nat.le_succ _))⟩
  rcases hk with hk | hk
  · refine PySem.W.sorted_data (enc := fun b : V × PyData => b.2) hl.isList (each_rel rv) (each_read I rv hd) hal hk hlen (fun b hb => ?_) fun out _ e => fin out e
    have := hdep b hb
    omega
  · refine Srt.sorted_any hl.isList (by rw [hi]; exact hlen) (fun h2 => absurd h2 (by omega)) fun out hp => ?_
    have e : out = its := perm_one hp (by omega)
    subst e
    refine fin out ?_
    rw [bsSort_one hk]
    exact each_rel rv
/-- sorted(a dict whose keys are tuples) -/
def rSortDT (K : PySem.W.Frag) : List V → Hp → VK → Prop := fun xs H Q => ∃ (d : Addr) (kvs : List (List Key × V)), xs = [V.ref d] ∧ Rd H d (.dT kvs) ∧
  ∀ (p : Addr) (bs : List Addr), H p = none → IsKeys H kvs bs → ∃ zs : List (V × PyData), zs.map (·.1) = bs.map V.ref ∧ DpAll K H (zs.map (·.1)) (zs.map (·.2)) ∧ AllAlike (zs.map (·.2)) ∧ PySem.W.Sortable (zs.map (·.2)) ∧ (∀ b ∈ zs, b.2.depth ≤ 60) ∧ Q (.ref p) (upd H p (.lst ((bsSort zs).map (·.1))))
theorem call_sortedDT (hc : X.calm = true) (hu : X.A.units + 65 < cLine) : CallR X (.builtin "sorted") (rSortDT X.K) := by
  intro pins s σ H xs us Q I r h
  obtain ⟨d, kvs, rfl, hd, q⟩ := h
  obtain ⟨u, rfl, rx⟩ := r.one
  cases rx
  obtain ⟨z, hs, ks, pr, o, es, ep, ho, hx, hdt, he, hn⟩ := (show ObjOk X.prog X.w H s.heap d (.dT kvs) from hd.ok I.hok)
  have l1 : es.size = ks.length := size_of_entries he
  have l2 : kvs.length = ks.length := Paired.length pr
  refine Calls.call_function_entry PyProof.Rows.kind_sorted PyProof.Rows.plain_sorted PyProof.Rows.entry_sorted (PyProof.Rows.args_sorted1 _) ?_
  unfold Builtin.«sorted»
  refine wpAny_bind (m := checkCount "sorted" 1 1 _) (wpAny_pure ?_)
  refine wpAny_bind (PySem.W.kdu_collect (A := X.A.in1) (kdl_raw (ep := ep) hs hx hdt) (I.ok.hd hc) ho (by omega) fun h' tk acc hk it => ?_)
  have ea : acc.toList = (ks.map fun x => x.2.1).map Value.ref := by
    have hl : acc.toList.length = ks.length := by rw [Array.length_toList, it.1]; exact l1
    rw [List.map_map]
    apply List.ext_getElem?
    intro j
    rw [List.getElem?_map]
    cases hj : acc.toList[j]? with
    | none =>
      have h1 := List.getElem?_eq_none_iff.mp hj
      rw [List.getElem?_eq_none (by omega)]
      all_goals rfl
    | some v =>
      obtain ⟨en, hen, hv⟩ := it.2 j v (by rw [← Array.getElem?_toList]; exact hj)
      have qe := entry_at he j
      rw [hen] at qe
      cases hb : ks[j]? with
      | none =>
        rw [hb] at qe
        exact nomatch (show some en = none from qe)
      | some b =>
        rw [hb] at qe
        have e2 : en = entryOfKey (tupleKind (mixKind X.prog X.w)) b := Option.some.inj qe
        rw [hv, e2]
        all_goals rfl
  have I1 : Inv X pins σ H { s with heap := h', toks := tk } := I.kept hk
  obtain ⟨zs, z1, z2, z3, z4, z5, z6⟩ := q h'.objs.size _ (I1.hok.fresh (Nat.le_refl _)) (isKeys_of pr)
  have rv : Vals (zs.map (·.1)) acc.toList := by
    rw [z1, ea]
    exact vals_refs _
  have hlz : zs.length = acc.toList.length := by
    have := rv.length
    rwa [List.length_map] at this
  have hla : acc.toList.length = ks.length := by
    rw [ea, List.length_map, List.length_map]
  have hz : zs.length ≤ sizeLine := by omega
  refine wpAny_bind (wpAny_newList ?_ (by omega))
  have hoL : (h'.push (seqObj "list" acc.toList.toArray 0)).get? h'.objs.size = some (seqObj "list" acc.toList.toArray 0) := Heap.get?_push_size _ rfl
  show wpAny _ _ _ _ _ { s with heap := h'.push (seqObj "list" acc.toList.toArray 0), toks := tk }
  have er : EachIs (fun (v : Value) (b : V × PyData) => ∃ as, Reads (sortingHeap (h'.push (seqObj "list" acc.toList.toArray 0)) h'.objs.size acc.toList) v b.2 as) acc.toList zs :=
    (each_read I1 rv z2).mono fun v b ⟨as, rr⟩ => ⟨as, PyProof.Rows.Reads.keeps (fun b' ob hb' => sortingHeap_old (Nat.ne_of_lt (Heap.lt_size hb')) (Heap.get?_push_of_some _ hb')) rr⟩
  refine wpAny_bind (wpAny_holding (wpAny_call_entry PyProof.Rows.slot_list_sort ⟨_, hoL, rfl⟩ PyProof.Rows.entry_list_sort
    (PySem.W.list_sort_vals (κ := dataKind (sortingHeap (h'.push (seqObj "list" acc.toList.toArray 0)) h'.objs.size acc.toList) (zs.map (·.2))) (s := { s with heap := h'.push (seqObj "list" acc.toList.toArray 0), toks := tk }) hoL
      (SortsAt.data (s := { s with heap := sortingHeap (h'.push (seqObj "list" acc.toList.toArray 0)) h'.objs.size acc.toList, toks := tk }) (each_map (R := fun v d => ∃ as, Reads (sortingHeap (h'.push (seqObj "list" acc.toList.toArray 0)) h'.objs.size acc.toList) v d as) (fun b : V × PyData => b.2) er) z3 z4 (bound_map fun b hb => ?_)) (by omega) ⟨_, rfl, ?_⟩)
    (PyProof.Rows.args_list_sort _)))
  · have h5 := z5 b hb
    show X.A.in1.in1.units + b.2.depth < cLine
    have e2 : X.A.in1.in1.units ≤ X.A.units + 2 := by
      exact Nat.le_refl _
    omega
  have e : EachIs (fun (v : Value) (b : V × PyData) => RelV b.1 v) (sortVals (dataKind (sortingHeap (h'.push (seqObj "list" acc.toList.toArray 0)) h'.objs.size acc.toList) (zs.map (·.2))) false acc.toList acc.toList) (bsSort zs) :=
    sortVals_data (enc := fun b : V × PyData => b.2) false (each_rel rv) er z3
  obtain ⟨e', he'⟩ := PyProof.Rows.sortedHeap_at (vs := acc.toList) (out := (sortVals (dataKind (sortingHeap (h'.push (seqObj "list" acc.toList.toArray 0)) h'.objs.size acc.toList) (zs.map (·.2))) false acc.toList acc.toList).toArray) hoL
  have hlen : ((bsSort zs).map (·.1)).length ≤ sizeLine := by
    rw [List.length_map, bsSort_len]
    exact hz
  refine wpAny_pure ⟨_, rfl, .ref h'.objs.size, upd H h'.objs.size (.lst ((bsSort zs).map (·.1))), I1.laid (t' := tk) (fun b u e => ?_) (Nat.le_refl _)
    (show ObjOk X.prog X.w _ _ _ (.lst ((bsSort zs).map (·.1))) from ⟨hlen, _, e', vals_each e, he'⟩), rfl, z6⟩
  have hb : b < h'.objs.size := Heap.lt_size e
  rw [PyProof.Rows.sortedHeap_old (Nat.ne_of_lt hb) (by rw [size_push']; exact Nat.lt_succ_of_lt hb)]
  exact Heap.get?_push_of_some _ e
end
end Md
namespace Md
open PySem L2
open Evl (Ex ex_l ex_t sz_of sz_lt fresh_back)
/-! ### nice data: numbers, texts, lists and tuples of them, to a depth -/
inductive Nice : Nat → Dt → Prop
  | int {n : Nat} (i : Int) : Nice n (.int i)
  | str {n : Nat} {x : Str} (h : PyData.strOk x = true) : Nice n (.str x)
  | tup {n : Nat} {xs : List Dt} (h : ∀ x ∈ xs, Nice n x) : Nice (n + 1) (.tup xs)
  | lst {n : Nat} {xs : List Dt} (h : ∀ x ∈ xs, Nice n x) : Nice (n + 1) (.lst xs)
theorem Nice.up {n m : Nat} (h : n ≤ m) : ∀ {d : Dt}, Nice n d → Nice m d := by
  induction n generalizing m with
  | zero =>
    intro d q
    cases q with
    | int i => exact .int i
    | str h => exact .str h
  | succ n ih =>
    intro d q
    cases q with
    | int i => exact .int i
    | str h => exact .str h
    | tup g =>
      cases m with
      | zero => exact absurd h (by omega)
      | succ m => exact .tup fun x hx => ih (by omega) (g x hx)
    | lst g =>
      cases m with
      | zero => exact absurd h (by omega)
      | succ m => exact .lst fun x hx => ih (by omega) (g x hx)
theorem plains_of : ∀ {xs : List Dt}, (∀ x ∈ xs, x.plain = true) → Dt.plains xs = true
  | [], _ => rfl
  | x :: xs, h => by
    rw [Dt.plains, h x List.mem_cons_self, plains_of fun y hy => h y (List.mem_cons_of_mem _ hy)]
    rfl
theorem pys_map : ∀ xs : List Dt, Dt.pys xs = xs.map Dt.py
  | [] => rfl
  | x :: xs => by
    rw [Dt.pys, pys_map xs]
    rfl
theorem canAll_of : ∀ {xs : List PyData}, (∀ x ∈ xs, x.canLay0 = true) → PyData.canLayAll0 xs = true
  | [], _ => rfl
  | x :: xs, h => by
    rw [PyData.canLayAll0, h x List.mem_cons_self, canAll_of fun y hy => h y (List.mem_cons_of_mem _ hy)]
    rfl
theorem depthAll_of {n : Nat} : ∀ {xs : List PyData}, (∀ x ∈ xs, x.depth ≤ n) → PyData.depthAll xs ≤ n
  | [], _ => by
    rw [PyData.depthAll]
    exact Nat.zero_le n
  | x :: xs, h => by
    rw [PyData.depthAll]
    have h1 := h x List.mem_cons_self
    have h2 := depthAll_of (xs := xs) fun y hy => h y (List.mem_cons_of_mem _ hy)
    omega
theorem nice_ok : ∀ (n : Nat) (d : Dt), Nice n d → d.plain = true ∧ d.py.canLay0 = true ∧ d.py.depth ≤ n := by
  intro n
  induction n with
  | zero =>
    intro d q
    cases q with
    | int i => exact ⟨rfl, rfl, Nat.le_of_eq (by rw [Dt.py, PyData.depth])⟩
    | str h => exact ⟨rfl, by rw [Dt.py, PyData.canLay0]; exact h, Nat.le_of_eq (by rw [Dt.py, PyData.depth])⟩
  | succ n ih =>
    intro d q
    cases q with
    | int i => exact ⟨rfl, rfl, by rw [Dt.py, PyData.depth]; exact Nat.zero_le _⟩
    | str h => exact ⟨rfl, by rw [Dt.py, PyData.canLay0]; exact h, by rw [Dt.py, PyData.depth]; exact Nat.zero_le _⟩
    | @tup _ xs h =>
      have e : Dt.py (.tup xs) = .tuple (xs.map Dt.py) := by rw [Dt.py, pys_map]
      refine ⟨?_, ?_, ?_⟩
      · rw [Dt.plain]
        exact plains_of fun x hx => (ih x (h x hx)).1
      · rw [e, PyData.canLay0]
        exact canAll_of fun y hy => by
          obtain ⟨x, hx, e⟩ := List.mem_map.mp hy
          rw [← e]
          exact (ih x (h x hx)).2.1
      · rw [e, PyData.depth]
        have : PyData.depthAll (xs.map Dt.py) ≤ n := depthAll_of fun y hy => by
          obtain ⟨x, hx, e⟩ := List.mem_map.mp hy
          rw [← e]
          exact (ih x (h x hx)).2.2
        omega
    | @lst _ xs h =>
      have e : Dt.py (.lst xs) = .list (xs.map Dt.py) := by rw [Dt.py, pys_map]
      refine ⟨?_, ?_, ?_⟩
      · rw [Dt.plain]
        exact plains_of fun x hx => (ih x (h x hx)).1
      · rw [e, PyData.canLay0]
        exact canAll_of fun y hy => by
          obtain ⟨x, hx, e⟩ := List.mem_map.mp hy
          rw [← e]
          exact (ih x (h x hx)).2.1
      · rw [e, PyData.depth]
        have : PyData.depthAll (xs.map Dt.py) ≤ n := depthAll_of fun y hy => by
          obtain ⟨x, hx, e⟩ := List.mem_map.mp hy
          rw [← e]
          exact (ih x (h x hx)).2.2
        omega
theorem eqvAll_iff {P : Dt → Prop} (ih : ∀ d, P d → ∀ e, P e → (PyData.eqv d.py e.py = true ↔ d = e)) : ∀ {xs ys : List Dt}, (∀ x ∈ xs, P x) → (∀ y ∈ ys, P y) → (PyData.eqvAll (xs.map Dt.py) (ys.map Dt.py) = true ↔ xs = ys)
  | [], [], _, _ => by simp [PyData.eqvAll]
  | [], y :: ys, _, _ => by simp [PyData.eqvAll]
  | x :: xs, [], _, _ => by simp [PyData.eqvAll]
  | x :: xs, y :: ys, hx, hy => by
    rw [List.map_cons, List.map_cons, PyData.eqvAll, Bool.and_eq_true, ih x (hx x List.mem_cons_self) y (hy y List.mem_cons_self),
      eqvAll_iff ih (fun z hz => hx z (List.mem_cons_of_mem _ hz)) (fun z hz => hy z (List.mem_cons_of_mem _ hz)), List.cons.injEq]
theorem eqv_iff : ∀ (n : Nat) (d : Dt), Nice n d → ∀ e, Nice n e → (PyData.eqv d.py e.py = true ↔ d = e) := by
  intro n
  induction n with
  | zero =>
    intro d q e r
    cases q <;> cases r <;> simp [Dt.py, PyData.eqv]
  | succ n ih =>
    intro d q e r
    cases q with
    | int i => cases r <;> simp [Dt.py, PyData.eqv]
    | str i => cases r <;> simp [Dt.py, PyData.eqv]
    | tup h =>
      cases r with
      | tup g =>
        rw [Dt.py, Dt.py, pys_map, pys_map, PyData.eqv, Dt.tup.injEq]
        exact eqvAll_iff (P := Nice n) ih h g
      | _ => simp [Dt.py, PyData.eqv]
    | lst h =>
      cases r with
      | lst g =>
        rw [Dt.py, Dt.py, pys_map, pys_map, PyData.eqv, Dt.lst.injEq]
        exact eqvAll_iff (P := Nice n) ih h g
      | _ => simp [Dt.py, PyData.eqv]
theorem shaped_of {n : Nat} {d : Dt} (h : Nice n d) (hn : n ≤ 60) : SeqAt.shaped d.py = true := by
  obtain ⟨_, h2, h3⟩ := nice_ok n d h
  unfold SeqAt.shaped
  rw [h2, decide_eq_true (by omega)]
  rfl
section
variable {F : Fx} {ρ ρ1 ρ2 ρ3 : Ro} {d d1 d2 d3 : Dt} {ta tb tc te : TE} {t u : TT} {a b : Bool} {i j : Int}
theorem rv_eqD {n : Nat} (h1 : Nice n d1) (h2 : Nice n d2) (hn : n ≤ 60) (hb : b = true ↔ d1 = d2) : Rv F (rEqD F.K) d1 d2 (.bl b) := fun x y O H al rx ry Q q => by
  refine ⟨d1.py, d2.py, (rx.mono (hide_ex O H)).dp (nice_ok n _ h1).1, (ry.mono (hide_ex O H)).dp (nice_ok n _ h2).1, shaped_of h1 hn, shaped_of h2 hn, ?_⟩
  have e : PyData.eqv d1.py d2.py = b := by
    rw [Bool.eq_iff_iff, eqv_iff n d1 h1 d2 h2, hb]
  rw [e]
  exact q _ H (Ex.refl H) (.bl b)
theorem any_eqv {n : Nat} {ds : List Dt} (h : ∀ x ∈ ds, Nice n x) (h1 : Nice n d) (hb : b = true ↔ d ∈ ds) : ((Dt.pys ds).any fun z => PyData.eqv z d.py) = b := by
  rw [pys_map, Bool.eq_iff_iff, List.any_eq_true, hb]
  constructor
  · rintro ⟨z, hz, e⟩
    obtain ⟨x, hx, e2⟩ := List.mem_map.mp hz
    rw [← e2] at e
    rw [← (eqv_iff n x (h x hx) d h1).mp e]
    exact hx
  · intro hx
    exact ⟨d.py, List.mem_map.mpr ⟨d, hx, rfl⟩, (eqv_iff n d h1 d h1).mpr rfl⟩
theorem py_lst (ds : List Dt) : (Dt.lst ds).py = .list (Dt.pys ds) := by rw [Dt.py]
theorem py_tup (ds : List Dt) : (Dt.tup ds).py = .tuple (Dt.pys ds) := by rw [Dt.py]
theorem rv_inD {n : Nat} {ds : List Dt} (h1 : Nice n d) (h2 : ∀ x ∈ ds, Nice n x) (hn : n < 60) (hb : b = true ↔ d ∈ ds) : Rv F (rInD F.K) d (.lst ds) (.bl b) := fun x y O H al rx ry Q q => by
  have h3 : Nice (n + 1) (.lst ds) := .lst h2
  refine ⟨d.py, Dt.pys ds, (rx.mono (hide_ex O H)).dp (nice_ok n _ h1).1, by rw [← py_lst]; exact (ry.mono (hide_ex O H)).dp (nice_ok _ _ h3).1, shaped_of h1 (by omega), by rw [← py_lst]; exact shaped_of h3 (by omega), ?_⟩
  rw [any_eqv h2 h1 hb]
  exact q _ H (Ex.refl H) (.bl b)
theorem rv_inDT {n : Nat} {ds : List Dt} (h1 : Nice n d) (h2 : ∀ x ∈ ds, Nice n x) (hn : n < 60) (hb : b = true ↔ d ∈ ds) : Rv F (rInDT F.K) d (.tup ds) (.bl b) := fun x y O H al rx ry Q q => by
  have h3 : Nice (n + 1) (.tup ds) := .tup h2
  refine ⟨d.py, Dt.pys ds, (rx.mono (hide_ex O H)).dp (nice_ok n _ h1).1, by rw [← py_tup]; exact (ry.mono (hide_ex O H)).dp (nice_ok _ _ h3).1, shaped_of h1 (by omega), by rw [← py_tup]; exact shaped_of h3 (by omega), ?_⟩
  rw [any_eqv h2 h1 hb]
  exact q _ H (Ex.refl H) (.bl b)
/-- x not in a list of the def's own -/
theorem ev_notInOwn {n k : Nat} {ds : List Dt} (h : Ev F te ρ d ρ) (hk : ρ[k]? = some (.ow (.ls ds))) (h1 : Nice n d) (h2 : ∀ x ∈ ds, Nice n x) (hn : n < 60) (hb : b = true ↔ d ∉ ds) : Ev F (tOp (rNotInD F.K) te (tVar k)) ρ (.bl b) ρ := fun O σ H R Q q =>
  h O σ H R _ fun v O1 H1 l kk R1 r => by
    obtain ⟨a, a1, a2, a3, vs, a4, a5⟩ := R1.ow k _ hk
    have h3 : Nice (n + 1) (.lst ds) := .lst h2
    have rl : Rp F.K F.cl H1 (.ref a) (.lst ds) := .lst (.inl (.inl a4)) (a5.mono (hide_ex O1 H1))
    refine ⟨_, a1, d.py, Dt.pys ds, (r.mono (hide_ex O1 H1)).dp (nice_ok n _ h1).1, by rw [← py_lst]; exact rl.dp (nice_ok _ _ h3).1, shaped_of h1 (by omega), by rw [← py_lst]; exact shaped_of h3 (by omega), ?_⟩
    have e : ((Dt.pys ds).any fun z => PyData.eqv z d.py) = !b := by
      refine any_eqv h2 h1 ?_
      cases b with
      | true => exact ⟨fun z => (nomatch z), fun z => absurd z (hb.mp rfl)⟩
      | false => exact ⟨fun _ => Classical.byContradiction fun z => (nomatch hb.mpr z), fun _ => rfl⟩
    rw [e, Bool.not_not]
    exact q _ O1 H1 l kk R1 (.bl b)
/-! ### isinstance -/
def tyN : Dt → String
  | .non => "NoneType"
  | .bl _ => "bool"
  | .int _ => "int"
  | .str _ => "str"
  | .lst _ => "list"
  | .tup _ => "tuple"
  | .obj _ _ => "object"
def isObj : Dt → Bool
  | .obj _ _ => true
  | .lst _ => true
  | _ => false
theorem ev_isi {c : String} (h : Ev F te ρ d ρ1) (ho : isObj d = false) (hk : kitB (tyN d) c = some b) : Ev F (tCB (rIsi F.K) (tCons te (tCons (tC (.ty c)) tNil))) ρ (.bl b) ρ1 := fun O σ H R Q q =>
  h O σ H R _ fun v O1 H1 l kk R1 r => by
    refine ⟨v, .ty c, .type (tyN d), .type c, b, rfl, .ty c, ?_, kit_ty hk, q _ O1 H1 l kk R1 (.bl b)⟩
    cases r with
    | non => exact .base .non
    | bl b => exact .base (.bl b)
    | int b => exact .base (.int b)
    | str b => exact .base (.str b)
    | lst _ _ => cases ho
    | tup hs _ => exact .base (.tup (hide_ex O1 H1 _ _ hs))
    | obj _ _ => cases ho
/-! ### -x, ranges -/
theorem ev_neg (h : Ev F te ρ (.int i) ρ1) : Ev F (tUn qNeg te) ρ (.int (-i)) ρ1 := ev_un h fun x O H al rx Q q => by
  cases rx
  exact ⟨i, rfl, q _ H (Ex.refl H) (.int _)⟩
def rangeD (n : Nat) : List Dt := (List.range n).map fun i => .int (i : Nat)
theorem rgV_eq (n : Nat) : rgV 0 (n : Int) = (List.range n).map fun i => V.int ((i : Nat) : Int) := by
  unfold rgV
  apply List.ext_getElem?
  intro k
  simp
theorem ev_tupRg {n : Nat} (h : Ev F te ρ (.int (n : Nat)) ρ1) (hn : n < 100000) : Ev F (tTupRg (tRg1 te)) ρ (.tup (rangeD n)) ρ1 := fun O σ H R Q q =>
  h O σ H R _ fun v O1 H1 l kk R1 r => by
    cases r
    refine ⟨(n : Int), rfl, ?_, fun p hp => ?_⟩
    · exact RgOk.of_le (by decide) (by omega) (by decide) (by omega)
    · rw [rgV_eq]
      have ra : RpA F.K F.cl (hide O1 H1) ((List.range n).map fun i => V.int ((i : Nat) : Int)) (rangeD n) := by
        have z := RpA.of_ints (K := F.K) (cl := F.cl) (H := hide O1 H1) ((List.range n).map fun i => ((i : Nat) : Int))
        rw [List.map_map, List.map_map] at z
        exact z
      exact q _ O1 _ l (kk.trans l (Vk.ex (Ex.new hp))) (R1.ex (Ex.new hp)) (Rp.tupNew (R1.noH hp) hp ra)
end
end Md
namespace Md
open PySem L2
open Evl (Ex ex_l ex_t sz_of sz_lt fresh_back)
section
variable {F : Fx} {O O' : Addr → Bool} {H H' : Hp} {σ σ' : St} {ρ ρ' ρ1 ρ2 ρ3 : Ro} {d d1 d2 : Dt} {v : V}
variable {t u tb : TS} {te ta td ty tv : TE} {tt : TT} {g : TG} {is : List Nat} {Φ Ψ : Pd} {b : Bool}
/-! ### enumerate -/
def enumD (ds : List Dt) : List Dt := ds.zipIdx.map fun p => .tup [.int (p.2 : Nat), p.1]
theorem enumD_len (ds : List Dt) : (enumD ds).length = ds.length := by
  unfold enumD
  rw [List.length_map, List.length_zipIdx]
theorem enumD_at {ds : List Dt} {i : Nat} {d : Dt} (h : (enumD ds)[i]? = some d) : ∃ x, ds[i]? = some x ∧ d = .tup [.int (i : Nat), x] := by
  unfold enumD at h
  rw [List.getElem?_map, List.getElem?_zipIdx, Nat.zero_add] at h
  cases e : ds[i]? with
  | none =>
    rw [e] at h
    cases h
  | some x =>
    rw [e] at h
    exact ⟨x, rfl, (Option.some.inj h).symm⟩
theorem pair_rp {O : Addr → Bool} {H : Hp} {T : Addr} {i : Nat} {x : V} {d : Dt} (hO : O T = false) (hT : H T = none) (r : Rp F.K F.cl (hide O H) x d) : Rp F.K F.cl (hide O (upd H T (.tup [.int ((i : Nat) : Int), x]))) (.ref T) (.tup [.int (i : Nat), d]) :=
  Rp.tupNew hO hT (.cons (.int _) (.cons r .nil))
theorem ei_enumT {ta : TA} {ds : List Dt} (h : EvA F ta ρ [.tup ds] ρ1) : EvI F (iEnumT F.K ta) ρ (enumD ds) ρ1 := fun O σ H R Q q => h O σ H R _ fun vs O1 H1 l k R1 r => by
  obtain ⟨v, w, e, r1, r2⟩ := r.cons_inv
  rw [r2.nil_inv] at e
  subst e
  cases r1 with
  | tup hs ha =>
    have hs : SqT F.K (hide O1 H1) _ _ := SqT.of hs
    refine ⟨_, _, rfl, ex_t (hide_ex _ _) hs, q _ O1 H1 l k R1 fun F2 O2 H2 σ2 ρ2 eK ec vs R2 _ => ⟨fun i d hi => ?_, ⟨_, ex_t (hide_ex _ _) (ex_t vs hs), by rw [ha.length, enumD_len]⟩⟩⟩
    obtain ⟨x, hx, e⟩ := enumD_at hi
    subst e
    obtain ⟨v, hv, rv⟩ := ha.get hx
    refine ⟨⟨_, v, ex_t (hide_ex _ _) (ex_t vs hs), hv⟩, fun y H' hy => ?_⟩
    obtain ⟨T, x', rfl, hT, rfl, fy⟩ := hy
    have ex : x' = v := Option.some.inj ((fy _ (ex_t (hide_ex _ _) (ex_t vs hs))).symm.trans hv)
    subst ex
    exact ⟨Ex.new hT, pair_rp (R2.noH hT) hT (rv.mono vs)⟩
theorem ei_enum {ta : TA} {ds : List Dt} (h : EvA F ta ρ [.lst ds] ρ1) : EvI F (iEnum F.K ta) ρ (enumD ds) ρ1 := fun O σ H R Q q => h O σ H R _ fun vs O1 H1 l k R1 r => by
  obtain ⟨v, w, e, r1, r2⟩ := r.cons_inv
  rw [r2.nil_inv] at e
  subst e
  cases r1 with
  | lst hs ha =>
    refine ⟨_, _, rfl, ex_l (hide_ex _ _) hs, q _ O1 H1 l k R1 fun F2 O2 H2 σ2 ρ2 eK ec vs R2 _ => ⟨fun i d hi => ?_, ⟨_, ex_l (hide_ex _ _) (ex_l vs hs), by rw [ha.length, enumD_len]; exact Nat.le_refl _⟩⟩⟩
    obtain ⟨x, hx, e⟩ := enumD_at hi
    subst e
    obtain ⟨v, hv, rv⟩ := ha.get hx
    refine ⟨⟨_, v, ex_l (hide_ex _ _) (ex_l vs hs), hv⟩, fun y H' hy => ?_⟩
    obtain ⟨T, x', rfl, hT, rfl, fy⟩ := hy
    have ex : x' = v := Option.some.inj ((fy _ (ex_l (hide_ex _ _) (ex_l vs hs))).symm.trans hv)
    subst ex
    exact ⟨Ex.new hT, pair_rp (R2.noH hT) hT (rv.mono vs)⟩
/-! ### a dict of one's own, walked -/
theorem paired_get {α β : Type} {P : α → β → Prop} : ∀ {l : List α} {r : List β} {i : Nat} {y : β}, Paired P l r → r[i]? = some y → ∃ x, l[i]? = some x ∧ P x y
  | _, _, _, _, .nil, e => by simp at e
  | _, _, 0, _, .cons h _, e => by
    simp at e
    subst e
    exact ⟨_, rfl, h⟩
  | _, _, i + 1, _, .cons _ t, e => by
    obtain ⟨x, h1, h2⟩ := paired_get (i := i) t (by simpa using e)
    exact ⟨x, by simpa using h1, h2⟩
/-- an own slot's description changes with what stands at its place -/
theorem Rel.lock (R : Rel F O H σ ρ) {i : Nat} {p : Addr} {kvs : List (Int × Dt)} (hi : ρ[i]? = some (.ow (.di kvs))) (hs : σ[i]? = some (some (.ref p))) : ∃ ws, H p = some (.dK ws) ∧ ∀ od, Rel F O (upd H p (.frz od (.dK ws))) σ (ρ.set i (.ow (.lk p (.frz od (.dK ws)) kvs))) := by
  obtain ⟨a, a1, a2, a3, ws, a4, a5⟩ := R.ow i _ hi
  have ea : a = p := by
    rw [hs] at a1
    exact (V.ref.inj (Option.some.inj (Option.some.inj a1))).symm
  subst ea
  exact ⟨ws, a4, fun od => R.wr hi hs ⟨rfl, rfl, od, ws, rfl, a5⟩⟩
theorem wp_lock {i : Nat} {kvs : List (Int × Dt)} (hi : ρ[i]? = some (.ow (.di kvs)))
    (h : ∀ p u, Wp F t (ρ.set i (.ow (.lk p u kvs))) ⟨fun ρ' => ρ'[i]? = some (.ow (.lk p u kvs)) ∧ Φ.nx (ρ'.set i (.ow (.di kvs))), fun _ _ => False, fun _ => False, fun _ => False⟩) : Wp F (tLock t) ρ Φ := fun O σ H D R n _ _ _ => by
  obtain ⟨p, p1, p2, _⟩ := R.ow i _ hi
  obtain ⟨ws, hp, lk⟩ := R.lock hi p1
  refine ⟨p, .dK ws, hp, trivial, fun od => ?_⟩
  refine h p (.frz od (.dK ws)) O σ _ _ (lk od) (fun O2 σ2 H2 ρ2 x v2 R2 => ?_) (fun _ _ _ _ _ _ x _ _ _ => x.elim) (fun _ _ _ _ x _ _ => x.elim) fun _ _ _ _ x _ _ => x.elim
  obtain ⟨a, a1, a2, a3, e1, e2, od', ws', e3, a5⟩ := R2.ow i _ x.1
  subst e1
  cases e3
  have w0 : Vs O H O (upd H a (.frz od (.dK ws))) := Vs.wr p2
  exact ⟨e2, n O2 σ2 _ _ x.2 ((w0.trans v2).trans (Vs.wr a2)) (R2.wr (m' := .di kvs) x.1 a1 ⟨ws, rfl, a5⟩)⟩
theorem ei_keys {i : Nat} {p : Addr} {u : HO} {kvs : List (Int × Dt)} (h : ρ[i]? = some (.ow (.lk p u kvs))) : EvS F (iKeys (tVar i)) ρ (kvs.map fun kv => .int kv.1) ρ (fun ρ' => ∃ j : Nat, ρ'[j]? = some (Sl.ow (.lk p u kvs))) := fun O σ H R Q q => by
  obtain ⟨a, a1, a2, a3, e1, e2, od, ws, e3, a5⟩ := R.ow i _ h
  subst e1 e3
  refine ⟨_, a1, a, od, rfl, .inl ⟨ws, e2, q _ O H (Le.refl O) (Vk.refl O H) R fun F2 O2 H2 σ2 ρ2 eK ec vs R2 ⟨j, hj⟩ => ?_⟩⟩
  obtain ⟨b, b1, b2, b3, f1, f2, od', ws', f3, b5⟩ := R2.ow j _ hj
  subst f1
  cases f3
  refine ⟨fun k d hk => ?_, f2, by rw [List.length_map, paired_len b5]; exact Nat.le_refl _⟩
  rw [List.getElem?_map] at hk
  cases e : kvs[k]? with
  | none =>
    rw [e] at hk
    cases hk
  | some kv =>
    rw [e] at hk
    cases hk
    obtain ⟨x, x1, x2, x3⟩ := paired_get b5 e
    refine ⟨⟨f2, (List.getElem?_eq_some_iff.mp x1).1⟩, fun y H' hy => ?_⟩
    obtain ⟨rfl, k', v', hk', rfl⟩ := hy
    rw [x1] at hk'
    cases hk'
    refine ⟨Ex.refl _, ?_⟩
    rw [show k' = Sum.inl kv.1 from x2]
    exact .int _
theorem valV_pair {K : PySem.W.Frag} {cl : Nat → Addr} {G : Hp} {k : Int} {d : Dt} : ∀ {ws : List (Key × V)} {kvs : List (Int × Dt)}, Paired (fun (p : Key × V) (q : Int × Dt) => p.1 = Sum.inl q.1 ∧ Rp K cl G p.2 q.2) ws kvs → kvs.lookup k = some d →
    ∃ v, valV ws (Sum.inl k) = some v ∧ Rp K cl G v d
  | _, _, .nil, e => nomatch e
  | p :: _, q :: _, .cons h t, e => by
    rw [List.lookup_cons] at e
    by_cases z : k = q.1
    · rw [beq_iff_eq.mpr z] at e
      cases e
      exact ⟨p.2, valV_pos (by rw [h.1, z]), h.2⟩
    · rw [beq_eq_false_iff_ne.mpr z] at e
      obtain ⟨v, v1, v2⟩ := valV_pair t e
      refine ⟨v, ?_, v2⟩
      rw [← v1]
      have z2 : ¬ p.1 = Sum.inl k := fun y => z (Sum.inl.inj (h.1.symm.trans y)).symm
      simp [valV, List.find?_cons, z2]
theorem ev_dget {i : Nat} {p : Addr} {u : HO} {kvs : List (Int × Dt)} {k : Int} (h : ρ[i]? = some (.ow (.lk p u kvs))) (he : Ev F te ρ (.int k) ρ) (hv : kvs.lookup k = some d) : Ev F (tDGet (tVar i) te) ρ d ρ := fun O σ H R Q q => by
  obtain ⟨a, a1, _⟩ := R.ow i _ h
  refine ⟨_, a1, he O σ H R _ fun v O1 H1 l kk R1 r => ?_⟩
  obtain ⟨b, b1, b2, b3, e1, e2, od, ws, e3, b5⟩ := R1.ow i _ h
  subst e1 e3
  rw [a1] at b1
  cases b1
  cases r
  obtain ⟨w, w1, w2⟩ := valV_pair b5 hv
  exact ⟨a, w, rfl, .inl ⟨ws, Sum.inl k, .inr ⟨od, e2⟩, rfl, w1.symm⟩, q w O1 H1 l kk R1 w2⟩
end
end Md
namespace Md
open PySem L2 PySem.W
open Evl (Ex ex_l ex_t sz_of sz_lt fresh_back)
section
variable {F : Fx} {O O' : Addr → Bool} {H H' : Hp} {σ σ' : St} {ρ ρ' ρ1 ρ2 ρ3 : Ro} {d d1 d2 : Dt} {v : V}
variable {t u tb : TS} {te ta td ty tv : TE} {tt : TT} {g : TG} {is : List Nat} {Φ Ψ : Pd} {b : Bool}
/-! ### sorted -/
def leD (a b : Dt) : Bool := dataLe false Dt.py a b
def sortD (ds : List Dt) : List Dt := ds.mergeSort leD
theorem sortD_perm (ds : List Dt) : (sortD ds).Perm ds := List.mergeSort_perm ds leD
theorem zip_fst {K : PySem.W.Frag} {cl : Nat → Addr} {H : Hp} : ∀ {vs : List V} {ds : List Dt}, RpA K cl H vs ds → (vs.zip ds).map (·.1) = vs ∧ (vs.zip ds).map (·.2) = ds ∧ ∀ b ∈ vs.zip ds, Rp K cl H b.1 b.2
  | _, _, .nil => ⟨rfl, rfl, fun b hb => nomatch hb⟩
  | _, _, .cons h t => by
    obtain ⟨e1, e2, e3⟩ := zip_fst t
    refine ⟨by rw [List.zip_cons_cons, List.map_cons, e1], by rw [List.zip_cons_cons, List.map_cons, e2], fun b hb => ?_⟩
    rw [List.zip_cons_cons] at hb
    rcases List.mem_cons.mp hb with e | hb
    · rw [e]
      exact h
    · exact e3 b hb
theorem unzip_rp {K : PySem.W.Frag} {cl : Nat → Addr} {H : Hp} : ∀ {bs : List (V × Dt)}, (∀ b ∈ bs, Rp K cl H b.1 b.2) → RpA K cl H (bs.map (·.1)) (bs.map (·.2))
  | [], _ => .nil
  | b :: bs, h => .cons (h b List.mem_cons_self) (unzip_rp fun c hc => h c (List.mem_cons_of_mem _ hc))
/-- the pairs of values and data in their sorted order -/
theorem sort_rp {K : PySem.W.Frag} {cl : Nat → Addr} {H : Hp} {vs : List V} {ds : List Dt} (r : RpA K cl H vs ds) : ∃ bs : List (V × PyData), bs.map (·.1) = vs ∧ bs.map (·.2) = ds.map Dt.py ∧ RpA K cl H ((bsSort bs).map (·.1)) (sortD ds) := by
  obtain ⟨e1, e2, e3⟩ := zip_fst r
  refine ⟨(vs.zip ds).map fun p => (p.1, p.2.py), by rw [List.map_map]; exact e1, (by
    have z := congrArg (List.map Dt.py) e2
    rw [List.map_map] at z
    rw [List.map_map, ← z]
    rfl), ?_⟩
  have z : bsSort ((vs.zip ds).map fun p => (p.1, p.2.py)) = ((vs.zip ds).mergeSort fun a b => leD a.2 b.2).map fun p => (p.1, p.2.py) := by
    unfold bsSort
    rw [List.map_mergeSort]
    intro a _ b _
    rfl
  have z2 : sortD ds = ((vs.zip ds).mergeSort fun a b => leD a.2 b.2).map (·.2) := by
    unfold sortD
    rw [List.map_mergeSort (s := leD), e2]
    intro a _ b _
    rfl
  rw [z, z2, List.map_map]
  exact unzip_rp fun b hb => e3 b (List.mem_mergeSort.mp hb)
theorem dpAll_map {K : PySem.W.Frag} {cl : Nat → Addr} {H : Hp} {vs : List V} {ds : List Dt} (r : RpA K cl H vs ds) (h : ∀ d ∈ ds, d.plain = true) : DpAll K H vs (ds.map Dt.py) := by
  rw [← pys_map]
  exact r.dp (plains_of h)
theorem bs_len {bs : List (V × PyData)} {ds : List Dt} (e : bs.map (·.2) = ds.map Dt.py) : bs.length = ds.length := by
  have := congrArg List.length e
  rwa [List.length_map, List.length_map] at this
theorem bs_depth {n : Nat} {bs : List (V × PyData)} {ds : List Dt} (e : bs.map (·.2) = ds.map Dt.py) (hn : ∀ d ∈ ds, Nice n d) (h : n ≤ 60) : ∀ b ∈ bs, b.2.depth ≤ 60 := fun b hb => by
  have hm : b.2 ∈ ds.map Dt.py := by
    rw [← e]
    exact List.mem_map.mpr ⟨b, hb, rfl⟩
  obtain ⟨d, hd, e⟩ := List.mem_map.mp hm
  rw [← e]
  exact Nat.le_trans (nice_ok n d (hn d hd)).2.2 h
theorem rc_sort {n : Nat} {ds : List Dt} (hn : ∀ d ∈ ds, Nice n d) (h60 : n ≤ 60) (hal : AllAlike (ds.map Dt.py)) (hk : Sortable (ds.map Dt.py) ∨ ds.length ≤ 1) : Rc F (rSortQ F.K) [.lst ds] (.lst (sortD ds)) := fun xs O H al r Q q => by
  obtain ⟨v, w, e, r1, r2⟩ := r.cons_inv
  rw [r2.nil_inv] at e
  subst e
  cases r1 with
  | lst hl ha =>
    obtain ⟨bs, b1, b2, b3⟩ := sort_rp ha
    refine ⟨_, bs, rfl, by rw [b1]; exact ex_l (hide_ex O H) hl, by rw [b1, b2]; exact dpAll_map (ha.mono (hide_ex O H)) fun d hd => (nice_ok n d (hn d hd)).1, by rw [b2]; exact hal, by rw [b2, bs_len b2]; exact hk, bs_depth b2 hn h60, fun p hp => q _ _ (Ex.new hp) (Rp.lstNew (no_of al hp) hp b3)⟩
theorem keys_rp {K : PySem.W.Frag} {cl : Nat → Addr} {H G : Hp} : ∀ {kvs : List (List Int × Dt)} {ws : List (List Key × V)} {bs : List Addr}, Paired (fun (p : List Key × V) (q : List Int × Dt) => p.1 = q.1.map Sum.inl ∧ Rp K cl G p.2 q.2) ws kvs →
    IsKeys H ws bs → RpA K cl H (bs.map V.ref) (kvs.map fun kv => .tup (kv.1.map .int))
  | _, _, _, .nil, .nil => .nil
  | kv :: kvs, w :: ws, b :: bs, .cons h t, .cons h' t' => by
    refine .cons (.tup (by rw [h', h.1]) ?_) (keys_rp t t')
    rw [← keysV]
    exact RpA.of_ints kv.1
theorem nokeys {O : Addr → Bool} {ws : List (List Key × V)} {bs : List Addr} (al : Al O H) (h : IsKeys H ws bs) : IsKeys (hide O H) ws bs := by
  unfold IsKeys at h ⊢
  refine Paired.mapP h fun p b e => hide_at.mpr ⟨?_, e⟩
  cases q : O b with
  | false => rfl
  | true => exact absurd e ((al b q).2 _)
theorem IsKeys.ex {H H' : Hp} {ws : List (List Key × V)} {bs : List Addr} (e : Ex H H') (h : IsKeys H ws bs) : IsKeys H' ws bs := by
  unfold IsKeys at h ⊢
  exact Paired.mapP h fun p b x => e _ _ x
/-- list(d): the keys -/
theorem ev_keysOwnT {i : Nat} {kvs : List (List Int × Dt)} (h : ρ[i]? = some (.ow (.dt kvs))) : Ev F (tCB (rListDT) (tCons (tVar i) tNil)) ρ (.lst (kvs.map fun kv => .tup (kv.1.map .int))) ρ := fun O σ H R Q q => by
  obtain ⟨a, a1, a2, a3, ws, a4, a5⟩ := R.ow i _ h
  refine ⟨_, a1, a, ws, rfl, .inl a4, fun p bs hp hk => ?_⟩
  exact q _ O _ (Le.refl O) (Vk.ex (Ex.new hp)) (R.ex (Ex.new hp)) (Rp.lstNew (R.noH hp) hp (keys_rp a5 (nokeys R.al hk)))
/-- sorted(d): the keys of a dict whose keys are tuples -/
theorem alike_tupI (xs ys : List Int) : alike (Dt.py (.tup (xs.map .int))) (Dt.py (.tup (ys.map .int))) = true := by
  rw [Dt.py, Dt.py, pys_map, pys_map, List.map_map, List.map_map, alike]
  exact alike_ints xs ys
theorem nice_tupI (xs : List Int) : Nice 1 (.tup (xs.map .int)) := .tup fun x hx => by
  obtain ⟨i, _, e⟩ := List.mem_map.mp hx
  rw [← e]
  exact .int i
theorem allAlike_of {ds : List Dt} (h : ∀ d ∈ ds, ∀ e ∈ ds, alike d.py e.py = true) : AllAlike (ds.map Dt.py) := fun x hx y hy => by
  obtain ⟨d, hd, rfl⟩ := List.mem_map.mp hx
  obtain ⟨e, he, rfl⟩ := List.mem_map.mp hy
  exact h d hd e he
theorem sortable_tup {ds : List Dt} (h : ∀ d ∈ ds, ∃ x r, d = .tup (x :: r)) : Sortable (ds.map Dt.py) := .inl fun z hz => by
  obtain ⟨d, hd, rfl⟩ := List.mem_map.mp hz
  obtain ⟨x, r, rfl⟩ := h d hd
  exact ⟨x.py, r.map Dt.py, by rw [Dt.py, pys_map]; rfl⟩
theorem ev_sortOwnT {i : Nat} {kvs : List (List Int × Dt)} (h : ρ[i]? = some (.ow (.dt kvs))) (hne : ∀ kv ∈ kvs, kv.1 ≠ []) : Ev F (tCB (rSortDT F.K) (tCons (tVar i) tNil)) ρ (.lst (sortD (kvs.map fun kv => .tup (kv.1.map .int)))) ρ := fun O σ H R Q q => by
  obtain ⟨a, a1, a2, a3, ws, a4, a5⟩ := R.ow i _ h
  refine ⟨_, a1, a, ws, rfl, .inl a4, fun p bs hp hk => ?_⟩
  have ra := keys_rp a5 (nokeys R.al hk)
  obtain ⟨zs, z1, z2, z3⟩ := sort_rp ra
  have hn : ∀ d ∈ kvs.map fun kv => Dt.tup (kv.1.map .int), Nice 1 d := fun d hd => by
    obtain ⟨kv, _, rfl⟩ := List.mem_map.mp hd
    exact nice_tupI kv.1
  refine ⟨zs, z1, by rw [z1, z2]; exact dpAll_map (ra.mono (hide_ex O H)) fun d hd => (nice_ok 1 d (hn d hd)).1, by
    rw [z2]
    exact allAlike_of fun d hd e he => by
      obtain ⟨kv, _, rfl⟩ := List.mem_map.mp hd
      obtain ⟨kv', _, rfl⟩ := List.mem_map.mp he
      exact alike_tupI _ _, by
    rw [z2]
    exact sortable_tup fun d hd => by
      obtain ⟨kv, hm, rfl⟩ := List.mem_map.mp hd
      cases e : kv.1 with
      | nil => exact absurd e (hne kv hm)
      | cons x r => exact ⟨.int x, r.map .int, rfl⟩, bs_depth z2 hn (by decide), ?_⟩
  exact q _ O _ (Le.refl O) (Vk.ex (Ex.new hp)) (R.ex (Ex.new hp)) (Rp.lstNew (R.noH hp) hp z3)
/-- sorted(d): the keys of a dict whose keys are ints -/
def rSortDI : List V → Hp → VK → Prop := fun xs H Q => ∃ (a : Addr) (kvs : List (Key × V)) (ks : List Int), xs = [.ref a] ∧ Rd H a (.dK kvs) ∧ kvs.map (·.1) = ks.map Sum.inl ∧ ks.length < 64 ∧
  ∀ (ys : List Int) (p : Addr), ys.Perm ks → ys.Pairwise (· ≤ ·) → H p = none → Q (.ref p) (upd H p (.lst (ys.map V.int)))
theorem call_sortedDIQ {X : Cx} (hc : X.calm = true) : CallR X (.builtin "sorted") rSortDI := call_sortedDI hc
def sortZ (ns : List Int) : List Int := ns.mergeSort fun a b => decide (a ≤ b)
theorem sortZ_perm (ns : List Int) : (sortZ ns).Perm ns := List.mergeSort_perm ns _
theorem sortZ_pair (ns : List Int) : (sortZ ns).Pairwise (· ≤ ·) := by
  have h := List.pairwise_mergeSort (le := fun a b : Int => decide (a ≤ b)) (fun a b c h1 h2 => by simp at *; omega) (fun a b => by simp; omega) ns
  exact h.imp fun h => by simpa using h
theorem sorted_uniq {xs ys : List Int} (hp : xs.Perm ys) (h1 : xs.Pairwise (· ≤ ·)) (h2 : ys.Pairwise (· ≤ ·)) : xs = ys := hp.eq_of_pairwise (fun a b _ _ p q => Int.le_antisymm p q) h1 h2
theorem keysI {K : PySem.W.Frag} {cl : Nat → Addr} {G : Hp} : ∀ {ws : List (Key × V)} {kvs : List (Int × Dt)}, Paired (fun (p : Key × V) (q : Int × Dt) => p.1 = Sum.inl q.1 ∧ Rp K cl G p.2 q.2) ws kvs → ws.map (·.1) = (kvs.map (·.1)).map Sum.inl
  | _, _, .nil => rfl
  | _, _, .cons h t => by
    rw [List.map_cons, List.map_cons, List.map_cons, keysI t, h.1]
theorem ints_lst {O : Addr → Bool} (ns : List Int) {p : Addr} (hO : O p = false) (hp : H p = none) : Rp F.K F.cl (hide O (upd H p (.lst (ns.map V.int)))) (.ref p) (.lst (ns.map .int)) := Rp.lstNew hO hp (RpA.of_ints ns)
theorem ev_sortOwnI {i : Nat} {kvs : List (Int × Dt)} (h : ρ[i]? = some (.ow (.di kvs))) (hl : kvs.length < 64) : Ev F (tCB rSortDI (tCons (tVar i) tNil)) ρ (.lst ((sortZ (kvs.map (·.1))).map .int)) ρ := fun O σ H R Q q => by
  obtain ⟨a, a1, a2, a3, ws, a4, a5⟩ := R.ow i _ h
  refine ⟨_, a1, a, ws, kvs.map (·.1), rfl, .inl a4, keysI a5, by rw [List.length_map]; exact hl, fun ys p hp hs hn => ?_⟩
  rw [sorted_uniq (hp.trans (sortZ_perm _).symm) hs (sortZ_pair _)]
  exact q _ O _ (Le.refl O) (Vk.ex (Ex.new hn)) (R.ex (Ex.new hn)) (ints_lst _ (R.noH hn) hn)
/-- sorted(ints) -/
theorem rc_sortI {ns : List Int} (hl : ns.length < 64) : Rc F (rSorted F.K) [.lst (ns.map .int)] (.lst ((sortZ ns).map .int)) := fun xs O H al r Q q => by
  obtain ⟨v, w, e, r1, r2⟩ := r.cons_inv
  rw [r2.nil_inv] at e
  subst e
  cases r1 with
  | lst hs ha =>
    rw [ha.ints] at hs
    refine ⟨_, ns, rfl, ex_l (hide_ex O H) hs, hl, fun ys p hp h1 hn => ?_⟩
    rw [sorted_uniq (hp.trans (sortZ_perm _).symm) h1 (sortZ_pair _)]
    exact q _ _ (Ex.new hn) (ints_lst _ (no_of al hn) hn)
/-! ### sums of lists, places in lists and texts -/
theorem rv_catL {ds es : List Dt} (h : ds.length + es.length ≤ 100000) : Rv F (qCat F.K) (.lst ds) (.lst es) (.lst (ds ++ es)) := fun v w O H al rx ry Q q => by
  cases rx with
  | @lst a xs _ hs ha =>
    cases ry with
    | @lst b ys _ ht hb => exact ⟨a, b, xs, ys, rfl, rfl, ex_l (hide_ex O H) hs, ex_l (hide_ex O H) ht, sz_of (by rw [ha.length, hb.length]; exact h), fun p hp => q _ _ (Ex.new hp) (Rp.lstNew (no_of al hp) hp (ha.append hb))⟩
/-- the first place of m in ns -/
theorem ev_index {ns : List Int} {m : Int} {j : Nat} (h : Ev F ta ρ (.lst (ns.map .int)) ρ1) (he : Ev F te ρ1 (.int m) ρ2) (h1 : ns[j]? = some m) (h2 : ∀ (k : Nat) (z : Int), k < j → ns[k]? = some z → z ≠ m) : Ev F (tBM F.K "list" (rIndex F.K) ta (tCons te tNil)) ρ (.int (j : Nat)) ρ2 := fun O σ H R Q q =>
  h O σ H R _ fun v O1 H1 l1 k1 R1 r1 => by
    cases r1 with
    | lst hs ha =>
      rw [ha.ints] at hs
      refine ⟨.inl ⟨rfl, _, ex_l (hide_ex O1 H1) hs⟩, he O1 σ H1 R1 _ fun w O2 H2 l2 k2 R2 r2 => ?_⟩
      cases r2
      have hs2 := ex_l (k2.hid l2) hs
      refine ⟨_, _, _, j, .int m, rfl, rfl, ex_l (hide_ex O2 H2) hs2, rfl, ?_, by rw [List.getElem?_map, h1]; rfl, ?_, fun k z hk hz => ?_, q _ O2 H2 (l1.trans l2) (k1.trans l1 k2) R2 (.int _)⟩
      · rw [List.all_map, List.all_eq_true]
        intro x _
        rfl
      · exact beq_self_eq_true m
      · rw [List.getElem?_map] at hz
        cases e : ns[k]? with
        | none =>
          rw [e] at hz
          cases hz
        | some y =>
          rw [e] at hz
          cases hz
          exact beq_eq_false_iff_ne.mpr (h2 k y hk e)
/-- a letter's place -/
def letters : Str := "abcdefghijklmnopqrstuvwxyz"
theorem occ_letters : ∀ k : Fin 26, Builtin.Str.occurrences letters ⟨#[97 + k.val]⟩ 0 letters.length 1 = [k.val] := by decide +kernel
theorem ev_indexS {c : Nat} (hc : 97 ≤ c ∧ c ≤ 122) (h : Ev F ta ρ (.str letters) ρ1) (he : Ev F te ρ1 (.str ⟨#[c]⟩) ρ2) : Ev F (tBM F.K "str" rIndexS ta (tCons te tNil)) ρ (.int ((c - 97 : Nat) : Int)) ρ2 := fun O σ H R Q q =>
  h O σ H R _ fun v O1 H1 l1 k1 R1 r1 => by
    cases r1
    refine ⟨rfl, he O1 σ H1 R1 _ fun w O2 H2 l2 k2 R2 r2 => ?_⟩
    cases r2
    have z := occ_letters ⟨c - 97, by omega⟩
    have e : 97 + (c - 97) = c := by omega
    simp only [e] at z
    exact ⟨_, _, c - 97, [], rfl, rfl, z, q _ O2 H2 (l1.trans l2) (k1.trans l1 k2) R2 (.int _)⟩
end
end Md
namespace Md
open PySem L2 PySem.W
open Evl (Ex ex_l ex_t sz_of sz_lt fresh_back)
section
variable {F : Fx} {O O' : Addr → Bool} {H H' : Hp} {σ σ' : St} {ρ ρ' ρ1 ρ2 ρ3 : Ro} {d d1 d2 : Dt} {v : V}
variable {t u tb : TS} {te ta td ty tv : TE} {tt : TT} {g : TG} {is : List Nat} {Φ Ψ : Pd} {b : Bool} {i j : Int}
/-! ### less is known -/
theorem Rel.forget1 (R : Rel F O H σ ρ) (i : Nat) : Rel F O H σ (ρ.set i .no) := by
  by_cases h : i < σ.length
  · have z := R.drop i σ[i]
    rwa [List.set_getElem_self h] at z
  · rw [List.set_eq_of_length_le (by rw [← R.len]; omega)]
    exact R
theorem Rel.forget (R : Rel F O H σ ρ) : ∀ ks : List Nat, Rel F O H σ (wipeR ρ ks)
  | [] => R
  | k :: ks => (R.forget ks).forget1 k
theorem wp_weak (ks : List Nat) (h : Wp F t (wipeR ρ ks) Φ) : Wp F t ρ Φ := fun O σ H D R n r b c => h O σ H D (R.forget ks) n r b c
/-- a loop over what has a type: the slots are J of what has been walked -/
theorem wp_forLS {α : Type} {wi : TI} {Sx : Ro → Prop} (xs : List α) (e : α → Dt) (ks : List Nat) (J : List α → Ro) (P : List α → Prop) (hi : EvS F wi ρ (xs.map e) ρ1 Sx) (h0 : wipeR ρ1 ks = J []) (p0 : P []) (hS : ∀ pre, Sx (J pre))
    (hs : ∀ pre x post, xs = pre ++ x :: post → P pre → ∃ js ρ2, Tg F g js (e x) (J pre) ρ2 ∧ Wp F tb ρ2 ⟨fun ρ' => P (pre ++ [x]) ∧ wipeR ρ' ks = J (pre ++ [x]), Φ.rt, Φ.nx, fun ρ' => P (pre ++ [x]) ∧ wipeR ρ' ks = J (pre ++ [x])⟩) (hd : P xs → Φ.nx (J xs)) : Wp F (tFor wi g tb) ρ Φ := by
  have hi2 : EvS F wi ρ (xs.map e) (J []) Sx := fun O σ H R Q q => hi O σ H R Q fun J' O' H' l k R' D => q J' O' H' l k (by rw [← h0]; exact R'.forget ks) D
  have hm : ∀ (i : Nat) (ρ' : Ro), P (xs.take i) ∧ ρ' = J (xs.take i) → Sx ρ' := fun i ρ' h => by
    rw [h.2]
    exact hS _
  intro O σ H D R n r b c
  refine wp_forS (Φ := ⟨fun ρ' => (P xs ∧ ρ' = J xs) ∨ Φ.nx ρ', Φ.rt, Φ.bk, Φ.ct⟩) hi2 (fun i ρ' => P (xs.take i) ∧ ρ' = J (xs.take i)) ⟨p0, rfl⟩ hm (fun i d ρ' hi hI => ?_) (fun ρ' hI => .inl ?_) O σ H D R (fun O' σ' H' ρ' hn vs R' => ?_) r b c
  · rw [List.getElem?_map] at hi
    cases e1 : xs[i]? with
    | none =>
      rw [e1] at hi
      cases hi
    | some x =>
      rw [e1] at hi
      cases hi
      obtain ⟨hp, rfl⟩ := hI
      have hlt : i < xs.length := (List.getElem?_eq_some_iff.mp e1).1
      have hx : xs[i] = x := (List.getElem?_eq_some_iff.mp e1).2
      have e2 : xs = xs.take i ++ x :: xs.drop (i + 1) := by
        rw [← hx, ← List.drop_eq_getElem_cons hlt, List.take_append_drop]
      have e3 : xs.take (i + 1) = xs.take i ++ [x] := by
        rw [List.take_succ, e1]
        rfl
      obtain ⟨js, ρ2, hT, hW⟩ := hs _ x _ e2 hp
      refine ⟨js, ρ2, hT, ?_⟩
      intro O2 σ2 H2 D2 R2 n2 r2 b2 c2
      refine hW O2 σ2 H2 D2 R2 (fun O3 σ3 H3 ρ3 x3 v3 R3 => n2 O3 σ3 H3 _ ⟨by rw [e3]; exact x3.1, rfl⟩ v3 (by rw [e3, ← x3.2]; exact R3.forget ks)) r2 (fun O3 σ3 H3 ρ3 x3 v3 R3 => b2 O3 σ3 H3 ρ3 (.inr x3) v3 R3) (fun O3 σ3 H3 ρ3 x3 v3 R3 => c2 O3 σ3 H3 _ ⟨by rw [e3]; exact x3.1, rfl⟩ v3 (by rw [e3, ← x3.2]; exact R3.forget ks))
  · rw [List.length_map, List.take_length] at hI
    exact hI
  · rcases hn with ⟨hp, rfl⟩ | hn
    · exact n O' σ' H' _ (hd hp) vs R'
    · exact n O' σ' H' ρ' hn vs R'
theorem wp_forL {α : Type} {wi : TI} (xs : List α) (e : α → Dt) (ks : List Nat) (J : List α → Ro) (P : List α → Prop) (hi : EvI F wi ρ (xs.map e) ρ1) (h0 : wipeR ρ1 ks = J []) (p0 : P [])
    (hs : ∀ pre x post, xs = pre ++ x :: post → P pre → ∃ js ρ2, Tg F g js (e x) (J pre) ρ2 ∧ Wp F tb ρ2 ⟨fun ρ' => P (pre ++ [x]) ∧ wipeR ρ' ks = J (pre ++ [x]), Φ.rt, Φ.nx, fun ρ' => P (pre ++ [x]) ∧ wipeR ρ' ks = J (pre ++ [x])⟩) (hd : P xs → Φ.nx (J xs)) : Wp F (tFor wi g tb) ρ Φ :=
  wp_forLS xs e ks J P hi h0 p0 (fun _ => trivial) hs hd
/-! ### items at places written as numbers -/
theorem ev_at (k : Nat) {ds : List Dt} (h : Ev F te ρ (.tup ds) ρ1) (hd : ds[k]? = some d) (e : i = (k : Int) := by rfl) : Ev F (tOp (rIxT F.K) te (tC (.int i))) ρ d ρ1 := ev_op h ev_int (rv_at e (rv_ixT hd))
theorem ev_ixv {k : Nat} {ds : List Dt} (h : Ev F te ρ (.tup ds) ρ1) (hi : Ev F ta ρ1 (.int (k : Nat)) ρ2) (hd : ds[k]? = some d) : Ev F (tOp (rIxT F.K) te ta) ρ d ρ2 := ev_op h hi (rv_ixT hd)
theorem ev_ixl {k : Nat} {ds : List Dt} (h : Ev F te ρ (.lst ds) ρ1) (hi : Ev F ta ρ1 (.int (k : Nat)) ρ2) (hd : ds[k]? = some d) : Ev F (tOp (rIxL F.K) te ta) ρ d ρ2 := ev_op h hi (rv_ixL hd)
theorem ea_one (h : Ev F ta ρ d ρ1) : EvA F (tCons ta tNil) ρ [d] ρ1 := ea_cons h ea_nil
theorem ea_two {tb : TE} (h : Ev F ta ρ d ρ1) (h2 : Ev F tb ρ1 d1 ρ2) : EvA F (tCons ta (tCons tb tNil)) ρ [d, d1] ρ2 := ea_cons h (ea_one h2)
theorem ev_len {ds : List Dt} {y : Dt} (h : Ev F te ρ y ρ1) (hy : y = .lst ds ∨ y = .tup ds) : Ev F (tCB (rLen F.K) (tCons te tNil)) ρ (.int (ds.length : Nat)) ρ1 := ev_CB (ea_one h) (rc_len hy)
theorem get_map {α : Type} {xs : List α} {e : α → Dt} {k : Nat} {x : α} (h : xs[k]? = some x) : (xs.map e)[k]? = some (e x) := by rw [List.getElem?_map, h]; rfl
/-- the first some of a tuple -/
theorem cut_take (xs : List Dt) (k : Nat) : cutD xs none (some (k : Int)) = xs.take k := by
  unfold cutD
  rw [HT.sIx_none, HT.sIx_nat, List.drop_zero, Nat.sub_zero]
  by_cases h : k ≤ xs.length
  · rw [Nat.min_eq_left h]
  · rw [Nat.min_eq_right (by omega), List.take_length, List.take_of_length_le (by omega)]
theorem cut_two (xs : List Dt) (j k : Nat) : cutD xs (some (j : Int)) (some (k : Int)) = (xs.take k).drop j := by
  unfold cutD
  rw [HT.sIx_nat, HT.sIx_nat, List.drop_take]
  by_cases h : j ≤ xs.length
  · rw [Nat.min_eq_left h]
    by_cases h2 : k ≤ xs.length
    · rw [Nat.min_eq_left h2]
    · rw [Nat.min_eq_right (by omega), List.take_of_length_le (by rw [List.length_drop]; omega), List.take_of_length_le (by rw [List.length_drop]; omega)]
  · rw [Nat.min_eq_right (a := j) (by omega), List.drop_length, List.drop_eq_nil_of_le (by omega), List.take_nil, List.take_nil]
end
end Md
namespace Md
open PySem
/-! ### the book as plain data -/
inductive Cell where
  | z (i : Int) | s (x : Str)
  deriving DecidableEq
def Cell.d : Cell → Dt
  | .z i => .int i
  | .s x => .str x
structure Row where
  t : Nat
  cs : List Cell
  deriving DecidableEq
def Row.d (r : Row) : Dt := .tup [.int (r.t : Nat), .tup (r.cs.map Cell.d)]
abbrev Tab := Nat × Nat
def tabD (t : Tab) : Dt := .tup [.int (t.1 : Nat), .int (t.2 : Nat)]
def natD (i : Nat) : Dt := .int (i : Nat)
inductive Side where
  | is (c : Cell) | cell (k c : Nat)
def Side.d : Side → Dt
  | .is c => .tup [.str "is", c.d]
  | .cell k c => .tup [.str "cell", natD k, natD c]
structure Test where
  l : Side
  w : Str
  r : Side
def Test.d (t : Test) : Dt := .tup [t.l.d, .str t.w, t.r.d]
inductive Rule where
  | never (t : Nat) (ts : List Test) | apart (t u : Nat) (ts : List Test) | tie (t : Nat) (cs : List Nat) (u : Nat) (ds : List Nat)
def Rule.d : Rule → Dt
  | .never t ts => .tup [.str "never", natD t, .tup (ts.map Test.d)]
  | .apart t u ts => .tup [.str "apart", natD t, natD u, .tup (ts.map Test.d)]
  | .tie t cs u ds => .tup [.str "tie", natD t, .tup (cs.map natD), natD u, .tup (ds.map natD)]
def Rule.kind : Rule → Nat
  | .never _ _ => 0
  | .apart _ _ _ => 1
  | .tie _ _ _ _ => 2
def Rule.o (r : Rule) : Dt := .obj r.kind r.d
structure Book where
  tabs : List Tab
  rules : List Rule
  rows : List Row
def tabsD (l : List Tab) : Dt := .tup (l.map tabD)
def rulesD (l : List Rule) : Dt := .tup (l.map Rule.d)
def rowsD (l : List Row) : Dt := .tup (l.map Row.d)
def Book.d (B : Book) : Dt := .tup [tabsD B.tabs, rulesD B.rules, rowsD B.rows]
def natsT (l : List Nat) : Dt := .tup (l.map natD)
def natsL (l : List Nat) : Dt := .lst (l.map natD)
/-! ### what is well formed -/
def bey : Int := 1000000000000000000000000000000
def Cell.Ok : Cell → Prop
  | .z i => 0 - bey < i ∧ i < bey
  | .s x => 1 ≤ x.cps.size ∧ x.cps.size ≤ 8 ∧ ∀ c ∈ x.cps.toList, 97 ≤ c ∧ c ≤ 122
def TabOk (t : Tab) : Prop := 1 ≤ t.1 ∧ t.1 ≤ 4 ∧ t.2 ≤ t.1
def Row.Ok (tabs : List Tab) (r : Row) : Prop := ∃ T, tabs[r.t]? = some T ∧ r.cs.length = T.1 ∧ ∀ c ∈ r.cs, c.Ok
def ColOk (tabs : List Tab) (t c : Nat) : Prop := ∃ T, tabs[t]? = some T ∧ c < T.1
def Side.Ok (tabs : List Tab) (there : List Nat) : Side → Prop
  | .is c => c.Ok
  | .cell k c => ∃ t, there[k]? = some t ∧ ColOk tabs t c
def wordsOf : List Str := ["same", "unlike", "less"]
def Test.Ok (tabs : List Tab) (there : List Nat) (t : Test) : Prop := t.l.Ok tabs there ∧ t.w ∈ wordsOf ∧ t.r.Ok tabs there
def TestsOk (tabs : List Tab) (there : List Nat) (ts : List Test) : Prop := 1 ≤ ts.length ∧ ts.length ≤ 3 ∧ ∀ t ∈ ts, t.Ok tabs there
def Rule.Ok (tabs : List Tab) : Rule → Prop
  | .never t ts => t < tabs.length ∧ TestsOk tabs [t] ts
  | .apart t u ts => t < tabs.length ∧ u < tabs.length ∧ TestsOk tabs [t, u] ts
  | .tie t cs u ds => t < tabs.length ∧ u < tabs.length ∧ 1 ≤ cs.length ∧ cs.length ≤ 3 ∧ ds.length = cs.length ∧ (∀ c ∈ cs, ColOk tabs t c) ∧ ∀ c ∈ ds, ColOk tabs u c
structure Book.Ok (B : Book) : Prop where
  t1 : 1 ≤ B.tabs.length
  t4 : B.tabs.length ≤ 4
  tab : ∀ t ∈ B.tabs, TabOk t
  r6 : B.rules.length ≤ 6
  rule : ∀ r ∈ B.rules, r.Ok B.tabs
  n10 : B.rows.length ≤ 10
  row : ∀ r ∈ B.rows, r.Ok B.tabs
  nd : B.rows.Nodup
/-! ### rules -/
def rowAt (rows : List Row) (i : Nat) : Row := rows.getD i ⟨0, []⟩
def cellAt (r : Row) (c : Nat) : Cell := r.cs.getD c (.z 0)
def sideV (rows : List Row) : Side → Cell
  | .is c => c
  | .cell k c => cellAt (rowAt rows k) c
def lessV : Cell → Cell → Bool
  | .z i, .z j => decide (i < j)
  | _, _ => false
def testV (rows : List Row) (t : Test) : Bool :=
  if t.w = "same" then decide (sideV rows t.l = sideV rows t.r) else if t.w = "unlike" then !decide (sideV rows t.l = sideV rows t.r) else lessV (sideV rows t.l) (sideV rows t.r)
def allV (rows : List Row) (ts : List Test) : Bool := ts.all (testV rows)
/-- the sides fit the rows -/
def Side.Fits (rows : List Row) : Side → Prop
  | .is _ => True
  | .cell k c => ∃ r, rows[k]? = some r ∧ c < r.cs.length
def Test.Fits (rows : List Row) (t : Test) : Prop := t.l.Fits rows ∧ t.r.Fits rows
def barsV : Rule → Row → Bool
  | .never t ts, r => decide (r.t = t) && allV [r] ts
  | _, _ => false
def oneV (t u : Nat) (ts : List Test) (r o : Row) : Bool := if (!decide (r.t = t) || !decide (o.t = u)) = true then false else allV [r, o] ts
def partsV : Rule → Row → Row → Bool
  | .apart t u ts, r, o => oneV t u ts r o || oneV t u ts o r
  | _, _, _ => false
def lacksV : Rule → Row → List Row → Bool
  | .tie t cs u ds, r, rows => if (!decide (r.t = t)) = true then false else !(rows.any fun o => decide (o.t = u) && decide (ds.map (cellAt o) = cs.map (cellAt r)))
  | _, _, _ => false
/-! ### keys, what is broken, what is held -/
def keyOf (tabs : List Tab) (r : Row) : Row := ⟨r.t, r.cs.take (tabs.getD r.t (0, 0)).2⟩
def keyAt (B : Book) (i : Nat) : Row := keyOf B.tabs (rowAt B.rows i)
def aloneV (B : Book) (rows : List Nat) : List Dt := rows.flatMap fun i => B.rules.zipIdx.flatMap fun q =>
  (if barsV q.1 (rowAt B.rows i) then [.tup [.str "never", natD i, natD q.2]] else []) ++ if lacksV q.1 (rowAt B.rows i) (rows.map (rowAt B.rows)) then [.tup [.str "tie", natD i, natD q.2]] else []
def pairKeyB (B : Book) (i j : Nat) : Bool := decide (i < j) && decide (keyAt B i = keyAt B j)
def pairRuleB (B : Book) (r : Rule) (i j : Nat) : Bool := decide (i < j) && partsV r (rowAt B.rows i) (rowAt B.rows j)
/-- a broken pair: its rows, and what else it bears -/
structure Brk where
  w : Str
  i : Nat
  j : Nat
  k : Option Nat
def Brk.d (b : Brk) : Dt := .tup ([.str b.w, natD b.i, natD b.j] ++ (match b.k with | some k => [natD k] | none => []))
def pairV (B : Book) (rows : List Nat) : List Brk := rows.flatMap fun i => rows.flatMap fun j =>
  (if pairKeyB B i j then [⟨"key", i, j, none⟩] else []) ++ B.rules.zipIdx.flatMap fun q => if pairRuleB B q.1 i j then [⟨"apart", i, j, some q.2⟩] else []
def breaksV (B : Book) (rows : List Nat) : List Dt := sortD (aloneV B rows ++ (pairV B rows).map Brk.d)
def goodV (B : Book) (rows : List Nat) : Bool := (aloneV B rows).isEmpty && (pairV B rows).isEmpty
def left0 (B : Book) (rows : List Nat) : List Nat := rows.filter fun i => !(B.rules.any fun r => barsV r (rowAt B.rows i))
def leftStep (B : Book) (left : List Nat) : List Nat := left.filter fun i => !(B.rules.any fun r => lacksV r (rowAt B.rows i) (left.map (rowAt B.rows)))
def heldGo (B : Book) : Nat → List Nat → List Nat
  | 0, l => l
  | n + 1, l => if (leftStep B l).length = l.length then leftStep B l else heldGo B n (leftStep B l)
def heldV (B : Book) (rows : List Nat) : List Nat := heldGo B (rows.length + 1) (left0 B rows)
def allRows (B : Book) : List Nat := List.range B.rows.length
/-! ### what clashes -/
def putS {α : Type} [DecidableEq α] (l : List α) (x : α) : List α := if x ∈ l then l else l ++ [x]
def pairKeys (B : Book) : List (Nat × Nat) := (pairV B (heldV B (allRows B))).foldl (fun l b => putS l (b.i, b.j)) []
def pairD (p : Nat × Nat) : Dt := .tup [natD p.1, natD p.2]
def pairLe (a b : Nat × Nat) : Bool := leD (pairD a) (pairD b)
def clashesV (B : Book) : List (Nat × Nat) := (pairKeys B).mergeSort pairLe
def pairsL (l : List (Nat × Nat)) : Dt := .lst (l.map pairD)
def clashRows (pairs : List (Nat × Nat)) : List Nat := pairs.foldl (fun l p => putS (putS l p.1) p.2) []
def rowsV (pairs : List (Nat × Nat)) : List Nat := (clashRows pairs).mergeSort fun a b => decide (a ≤ b)
def nearV (pairs : List (Nat × Nat)) (i j : Nat) : Bool := decide ((min i j, max i j) ∈ pairs)
def greatestV (free rows : List Nat) (pairs : List (Nat × Nat)) : Bool := rows.all fun i => decide (i ∈ free) || free.any (nearV pairs i)
/-! ### the greatest free sets -/
def restV (pairs : List (Nat × Nat)) (i : Nat) (free : List Nat) : List Nat := free.filter fun j => !nearV pairs i j
def freePut (pairs : List (Nat × Nat)) (pre : List Nat) (i : Nat) (more : List (List Nat)) (free : List Nat) : List (List Nat) :=
  let rest := restV pairs i free
  let more1 := if rest.length < free.length then putS more free else more
  if (decide (rest.length = free.length) || greatestV (rest ++ [i]) pre pairs) = true then putS more1 (rest ++ [i]) else more1
def freeStep (pairs : List (Nat × Nat)) (pre : List Nat) (i : Nat) (found : List (List Nat)) : List (List Nat) := found.foldl (freePut pairs pre i) []
def freeTo (pairs : List (Nat × Nat)) (rows : List Nat) : List (Nat × Nat) → List (List Nat) := fun ps => ps.foldl (fun found p => freeStep pairs (rows.take p.2) p.1 found) [[]]
def freeV (rows : List Nat) (pairs : List (Nat × Nat)) : List (List Nat) := freeTo pairs rows rows.zipIdx
def setsL (l : List (List Nat)) : Dt := .lst (l.map natsT)
def bitsV (rows : List Nat) : Int := rows.foldl (fun a i => Builtin.bitOr a (1 * 2 ^ ((i : Nat) : Int).toNat)) 0
def bitsD (some : List (List Nat)) : List (Int × Dt) := some.foldl (fun l r => putD l (bitsV r) (natsT r)) []
def underB (ks : List Int) (x : Int) : Bool := ks.any fun y => (!decide (x = y)) && decide (Builtin.bitAnd x y = x)
/-- the sets by their bits -/
def byBits (some : List (List Nat)) : List (Int × List Nat) := some.foldl (fun l r => if (l.any fun kv => decide (kv.1 = bitsV r)) = true then l.map (fun kv => if kv.1 = bitsV r then (kv.1, r) else kv) else l ++ [(bitsV r, r)]) []
def greatestOnes (some : List (List Nat)) : List (List Nat) := ((byBits some).filter fun kv => !underB ((byBits some).map (·.1)) kv.1).map (·.2)
def othersV (B : Book) (rows : List Nat) : List Nat := (heldV B (allRows B)).filter fun i => !decide (i ∈ rows)
def sortN (l : List Nat) : List Nat := l.mergeSort fun a b => decide (a ≤ b)
def someV (B : Book) : List (List Nat) := (freeV (rowsV (clashesV B)) (clashesV B)).map fun free => heldV B (sortN (free ++ othersV B (rowsV (clashesV B))))
def setLe (a b : List Nat) : Bool := leD (natsT a) (natsT b)
def mendedV (B : Book) : List (List Nat) := (greatestOnes (someV B)).mergeSort setLe
/-! ### sums -/
def numV : Cell → Int
  | .z i => i
  | .s _ => 0
def worthV (rows : List Row) (t c : Nat) (i : Nat) : Int := if (!decide ((rowAt rows i).t = t)) = true then 0 else numV (cellAt (rowAt rows i) c)
def sumV (rows : List Row) (some : List Nat) (t c : Nat) : Int := (some.map (worthV rows t c)).sum
def bestV (rows : List Row) (t c : Nat) (sign : Int) (block : List Nat) : Nat := block.foldl (fun found i => if sign * worthV rows t c found < sign * worthV rows t c i then i else found) (block.headD 0)
/-- the rows by their keys, in the order in which a key is met first -/
def blockPut (l : List (Row × List Nat)) (k : Row) (i : Nat) : List (Row × List Nat) := if (l.any fun kv => decide (kv.1 = k)) = true then l.map (fun kv => if kv.1 = k then (kv.1, kv.2 ++ [i]) else kv) else l ++ [(k, [i])]
def blocksK (tabs : List Tab) (rows : List Row) : List (Row × List Nat) := rows.zipIdx.foldl (fun l q => blockPut l (keyOf tabs q.1) q.2) []
def blocksV (tabs : List Tab) (rows : List Row) : List (List Nat) := (blocksK tabs rows).map (·.2)
def bestRows (B : Book) (t c : Nat) (sign : Int) : List Nat := sortN ((blocksV B.tabs B.rows).map (bestV B.rows t c sign))
structure Told where
  lo : Int
  a : List Nat
  hi : Int
  b : List Nat
def Told.d (x : Told) : Dt := .tup [.int x.lo, natsT x.a, .int x.hi, natsT x.b]
def byBlocksV (B : Book) (t c : Nat) : Told := ⟨sumV B.rows (bestRows B t c (-1)) t c, bestRows B t c (-1), sumV B.rows (bestRows B t c 1) t c, bestRows B t c 1⟩
def totalsV (B : Book) (t c : Nat) : List Int := (mendedV B).map fun s => sumV B.rows s t c
def minV (l : List Int) : Int := l.foldl min (l.headD 0)
def maxV (l : List Int) : Int := l.foldl max (l.headD 0)
def firstAt (l : List Int) (m : Int) : Nat := l.findIdx fun z => decide (z = m)
def throughV (B : Book) (t c : Nat) : Told :=
  ⟨minV (totalsV B t c), (mendedV B).getD (firstAt (totalsV B t c) (minV (totalsV B t c))) [], maxV (totalsV B t c), (mendedV B).getD (firstAt (totalsV B t c) (maxV (totalsV B t c))) []⟩
def sumsV (B : Book) (t c : Nat) : Told := if B.rules.isEmpty then byBlocksV B t c else throughV B t c
end Md
namespace Md
open PySem L2
/-! ### what the law makes of its script -/
def stD (s w : Int) : Nat → Int
  | 0 => s
  | i + 1 => stD s w i / w
def tenP : Int := (10 ^ 60) ^ 10
def oddV (c p : Int) : Int := (c % 2147483629 + 7) * 48271 % p
def mixV (c p : Int) : Int := if c % 2 = 0 then c / 2 % tenP else oddV c p * oddV c p % 2147483579 * 1000003 + oddV c p
def sgn (c : Nat) : Str := ⟨#[c]⟩
def ltr (n : Int) : Nat := 97 + (n % 26).toNat
def nameCs (n : Int) : List Nat := (List.range (1 + n % 8).toNat).map fun i => ltr (stD (n / 8) 26 i)
def nameV (n : Int) : Str := ⟨(nameCs n).toArray⟩
def poolN (c : Int) : Int := mixV c 2147483587 / (8 * 26 ^ 8)
def poolK (c : Int) : Nat := (poolN c % ((nameCs (mixV c 2147483587)).length : Nat)).toNat
def turnK (c : Int) : Int := (((nameCs (mixV c 2147483587)).getD (poolK c) 97 - 97 : Nat) : Int) + 1 + poolN c / 8 % 25
def otherCs (c : Int) : List Nat := (nameCs (mixV c 2147483587)).take (poolK c) ++ [ltr (turnK c)] ++ (nameCs (mixV c 2147483587)).drop (poolK c + 1)
def otherV (c : Int) : Str := ⟨(otherCs c).toArray⟩
def greatN (c : Int) : Int := poolN c / 200
def greatV (c : Int) : Int := if greatN c % 2 = 1 then greatN c / 2 % (10 ^ 30 - 3) + 1 else (greatN c % 10 ^ 30 * 48271 + 11) ^ 4 % (10 ^ 30 - 3) + 1
def poolV (c : Int) : List Cell := [.z (greatN c / 64 % 5), .z (greatV c), .s (nameV (mixV c 2147483587)), .z (0 - greatV c), .s (otherV c), .z (greatN c / 320 % 5 + 7), .z (greatV c + 1)]
def tabAt (n : Int) (i : Nat) : Tab := ((1 + stD n 20 i % 4).toNat, (stD n 20 i / 4 % (1 + stD n 20 i % 4 + 1)).toNat)
def tablesG (c : Int) : List Tab := (List.range (1 + mixV c 2147483629 % 3).toNat).map (tabAt (mixV c 2147483629 / 3))
def poolAt (pool : List Cell) (k : Int) : Cell := pool.getD k.toNat (.z 0)
def rowG (tabs : List Tab) (pool : List Cell) (wide c : Int) : Row :=
  ⟨(mixV c 2147483563 % (tabs.length : Nat)).toNat, (List.range (tabs.getD (mixV c 2147483563 % (tabs.length : Nat)).toNat (0, 0)).1).map fun i => poolAt pool (stD (mixV c 2147483563 / (tabs.length : Nat)) wide i % wide)⟩
def rowsG (tabs : List Tab) (pool : List Cell) (wide : Int) (cells : List Int) : List Row := cells.foldl (fun l c => putS l (rowG tabs pool wide c)) []
def widthAt (tabs : List Tab) (t : Nat) : Int := ((tabs.getD t (0, 0)).1 : Nat)
def sideG (pool : List Cell) (tabs : List Tab) (there : List Nat) (s : Int) : Side × Int :=
  if s % 4 = 0 then (.is (poolAt pool (s / 4 % 7)), s / 4 / 7) else
    (.cell (s / 4 % (there.length : Nat)).toNat (s / 4 / (there.length : Nat) % widthAt tabs (there.getD (s / 4 % (there.length : Nat)).toNat 0)).toNat,
      s / 4 / (there.length : Nat) / widthAt tabs (there.getD (s / 4 % (there.length : Nat)).toNat 0))
def wordAt (k : Int) : Str := wordsOf.getD k.toNat "same"
def testG (pool : List Cell) (tabs : List Tab) (there : List Nat) (s : Int) : Test × Int :=
  (⟨(sideG pool tabs there (s / 3)).1, wordAt (s % 3), (sideG pool tabs there (sideG pool tabs there (s / 3)).2).1⟩, (sideG pool tabs there (sideG pool tabs there (s / 3)).2).2)
def testSt (pool : List Cell) (tabs : List Tab) (there : List Nat) (s : Int) : Nat → Int
  | 0 => s
  | i + 1 => (testG pool tabs there (testSt pool tabs there s i)).2
def manyTests (s : Int) : Nat := [1, 1, 2, 1, 2, 3].getD (s % 6).toNat 0
def testsG (pool : List Cell) (tabs : List Tab) (there : List Nat) (s : Int) : List Test := (List.range (manyTests s)).map fun i => (testG pool tabs there (testSt pool tabs there (s / 6) i)).1
def colsG (w s : Int) (n : Nat) : List Nat := (List.range n).map fun i => (stD s w i % w).toNat
def manyCols (s : Int) : Nat := [1, 2, 1, 3, 1].getD (s % 5).toNat 0
def ruleG (tabs : List Tab) (pool : List Cell) (c : Int) : Rule :=
  let n : Int := (tabs.length : Nat)
  let s1 := mixV c 2147483543 / 4
  let t := (s1 % n).toNat
  let u := (s1 / n % n).toNat
  let s3 := s1 / n / n
  if mixV c 2147483543 % 4 = 0 then .never t (testsG pool tabs [t] s3) else if mixV c 2147483543 % 4 < 3 then .apart t u (testsG pool tabs [t, u] s3) else
    .tie t (colsG (widthAt tabs t) (s3 / 5) (manyCols s3)) u (colsG (widthAt tabs u) (stD (s3 / 5) (widthAt tabs t) (manyCols s3)) (manyCols s3))
def idleG (tabs : List Tab) (c : Int) : Rule := .never (c / 7 % (tabs.length : Nat)).toNat [⟨.is (.z (c % 7)), "same", .is (.z (c % 7 + 1 + c / 28 % 5))⟩]
def negC : Cell → Cell
  | .z i => .z (0 - i)
  | .s x => .s x
def turnR (r : Row) : Row := ⟨r.t, r.cs.map negC⟩
def totalV (rows : List Row) (some : List Nat) (t c : Nat) : Int := some.foldl (fun a i => if (decide ((rowAt rows i).t = t) && (match cellAt (rowAt rows i) c with | .s _ => false | .z _ => true)) = true then a + numV (cellAt (rowAt rows i) c) else a) 0
/-! ### the law's book -/
def scr (ns : List Int) (k : Nat) : Int := ns.getD k 0
def poolL (ns : List Int) : List Cell := poolV (scr ns 0)
def headL (ns : List Int) : Int := scr ns 2
def least3 (t : Tab) : Tab := (min t.1 3, min t.2 3)
def tabsL (ns : List Int) : List Tab := (tablesG (scr ns 1)).map least3
def manyL (ns : List Int) : Nat := (headL ns % 2 * (1 + headL ns / 2 % 3)).toNat
def rulesL (ns : List Int) : List Rule := (List.range (manyL ns)).map fun k => ruleG (tabsL ns) (poolL ns) (scr ns (3 + k))
def rowsL (ns : List Int) : List Row := (rowsG (tabsL ns) (poolL ns) (2 + headL ns / 6 % 6) ((ns.take 63).drop 6)).take 10
def bookL (ns : List Int) : Book := ⟨tabsL ns, rulesL ns, rowsL ns⟩
def idleL (ns : List Int) : Rule := idleG (tabsL ns) (headL ns / 36)
end Md
namespace Md
open PySem L2
/-! ### what each def promises -/
def Rof {T : Type} (P : T → Prop) (A : T → List Dt) (D : T → Dt) : List Dt → Dt → Prop := fun ds d => ∃ x, P x ∧ ds = A x ∧ d = D x
def RofM {T : Type} (P : T → Prop) (S : T → Int) (A : T → List Dt) (D : T → Dt) (S2 : T → Int) : Int → List Dt → Dt → Int → Prop := fun s ds d s' => ∃ x, P x ∧ s = S x ∧ ds = A x ∧ d = D x ∧ s' = S2 x
def RowsIn (B : Book) (rows : List Nat) : Prop := B.Ok ∧ rows.length ≤ 10 ∧ ∀ i ∈ rows, i < B.rows.length
def oneR : Rule → Row → Row → Bool
  | .apart t u ts, r, o => oneV t u ts r o
  | _, _, _ => false
def rulesO (l : List Rule) : Dt := .lst (l.map Rule.o)
def rowsO (l : List Row) : Dt := .lst (l.map Row.d)
def cellsL (l : List Cell) : Dt := .lst (l.map Cell.d)
def intsL (l : List Int) : Dt := .lst (l.map .int)
section
variable (K : PySem.W.Frag) (cl : Nat → Addr)
abbrev R_is_plain := Rof (T := Book) (fun _ => True) (fun B => [B.d]) fun B => .bl B.rules.isEmpty
abbrev sp_is_plain := SpP K cl R_is_plain
abbrev R_check_plain := Rof (T := Book) (fun B => B.rules = []) (fun B => [B.d]) fun _ => .non
abbrev sp_check_plain := SpP K cl R_check_plain
abbrev R_key_of := Rof (T := Book × Row) (fun x => x.2.t < x.1.tabs.length) (fun x => [x.1.d, x.2.d]) fun x => (keyOf x.1.tabs x.2).d
abbrev sp_key_of := SpP K cl R_key_of
abbrev R_blocks := Rof (T := Book) (fun B => B.Ok ∧ B.rules = []) (fun B => [B.d]) fun B => .lst ((blocksV B.tabs B.rows).map natsL)
abbrev sp_blocks := SpP K cl R_blocks
abbrev R_side_value := Rof (T := Side × List Row) (fun x => x.1.Fits x.2) (fun x => [x.1.d, rowsD x.2]) fun x => (sideV x.2 x.1).d
abbrev sp_side_value := SpP K cl R_side_value
abbrev R_test_holds := Rof (T := Test × List Row) (fun x => x.1.Fits x.2) (fun x => [x.1.d, rowsD x.2]) fun x => .bl (testV x.2 x.1)
abbrev sp_test_holds := SpP K cl R_test_holds
abbrev R_all_hold := Rof (T := List Test × List Row) (fun x => (∀ t ∈ x.1, t.Fits x.2) ∧ x.1.length < 1000) (fun x => [.tup (x.1.map Test.d), rowsD x.2]) fun x => .bl (allV x.2 x.1)
abbrev sp_all_hold := SpP K cl R_all_hold
abbrev RBars (k : Nat) := Rof (T := List Tab × Rule × Row) (fun x => x.2.1.kind = k ∧ x.2.1.Ok x.1 ∧ x.2.2.Ok x.1) (fun x => [x.2.1.o, x.2.2.d]) fun x => .bl (barsV x.2.1 x.2.2)
abbrev spBars (k : Nat) := SpP K cl (RBars k)
abbrev RParts (k : Nat) := Rof (T := List Tab × Rule × Row × Row) (fun x => x.2.1.kind = k ∧ x.2.1.Ok x.1 ∧ x.2.2.1.Ok x.1 ∧ x.2.2.2.Ok x.1) (fun x => [x.2.1.o, x.2.2.1.d, x.2.2.2.d]) fun x => .bl (partsV x.2.1 x.2.2.1 x.2.2.2)
abbrev spParts (k : Nat) := SpP K cl (RParts k)
abbrev RLacks (k : Nat) := Rof (T := List Tab × Rule × Row × List Row) (fun x => x.2.1.kind = k ∧ x.2.1.Ok x.1 ∧ x.2.2.1.Ok x.1 ∧ ∀ r ∈ x.2.2.2, r.Ok x.1) (fun x => [x.2.1.o, x.2.2.1.d, rowsO x.2.2.2]) fun x => .bl (lacksV x.2.1 x.2.2.1 x.2.2.2)
abbrev spLacks (k : Nat) := SpP K cl (RLacks k)
abbrev sp_bars_Never := spBars K cl 0
abbrev sp_bars_Apart := spBars K cl 1
abbrev sp_bars_Tie := spBars K cl 2
abbrev sp_parts_them_Never := spParts K cl 0
abbrev sp_parts_them_Apart := spParts K cl 1
abbrev sp_parts_them_Tie := spParts K cl 2
abbrev sp_lacks_Never := spLacks K cl 0
abbrev sp_lacks_Apart := spLacks K cl 1
abbrev sp_lacks_Tie := spLacks K cl 2
abbrev R_one_way_Apart := Rof (T := List Tab × Rule × Row × Row) (fun x => x.2.1.kind = 1 ∧ x.2.1.Ok x.1 ∧ x.2.2.1.Ok x.1 ∧ x.2.2.2.Ok x.1) (fun x => [x.2.1.o, x.2.2.1.d, x.2.2.2.d]) fun x => .bl (oneR x.2.1 x.2.2.1 x.2.2.2)
abbrev sp_one_way_Apart := SpP K cl R_one_way_Apart
abbrev R_rule_of := Rof (T := Rule) (fun _ => True) (fun r => [r.d]) fun r => r.o
abbrev sp_rule_of := SpP K cl R_rule_of
abbrev R_rules_of := Rof (T := Book) (fun B => B.rules.length < 1000) (fun B => [B.d]) fun B => rulesO B.rules
abbrev sp_rules_of := SpP K cl R_rules_of
abbrev R_key_at := Rof (T := Book × Nat) (fun x => x.1.Ok ∧ x.2 < x.1.rows.length) (fun x => [x.1.d, natD x.2]) fun x => (keyAt x.1 x.2).d
abbrev sp_key_at := SpP K cl R_key_at
abbrev R_alone_breaks := Rof (T := Book × List Nat) (fun x => RowsIn x.1 x.2) (fun x => [x.1.d, rulesO x.1.rules, natsT x.2]) fun x => .lst (aloneV x.1 x.2)
abbrev sp_alone_breaks := SpP K cl R_alone_breaks
abbrev R_pair_breaks := Rof (T := Book × List Nat) (fun x => RowsIn x.1 x.2) (fun x => [x.1.d, rulesO x.1.rules, natsT x.2]) fun x => .lst ((pairV x.1 x.2).map Brk.d)
abbrev sp_pair_breaks := SpP K cl R_pair_breaks
abbrev R_breaks := Rof (T := Book × List Nat) (fun x => RowsIn x.1 x.2) (fun x => [x.1.d, natsT x.2]) fun x => .lst (breaksV x.1 x.2)
abbrev sp_breaks := SpP K cl R_breaks
abbrev R_good := Rof (T := Book × List Nat) (fun x => RowsIn x.1 x.2) (fun x => [x.1.d, natsT x.2]) fun x => .bl (goodV x.1 x.2)
abbrev sp_good := SpP K cl R_good
abbrev R_held := Rof (T := Book × List Nat) (fun x => RowsIn x.1 x.2) (fun x => [x.1.d, natsT x.2]) fun x => natsT (heldV x.1 x.2)
abbrev sp_held := SpP K cl R_held
abbrev R_clashes := Rof (T := Book) (fun B => B.Ok) (fun B => [B.d]) fun B => pairsL (clashesV B)
abbrev sp_clashes := SpP K cl R_clashes
abbrev R_rows_that_clash := Rof (T := List (Nat × Nat)) (fun l => l.length < 1000 ∧ ∀ p ∈ l, p.1 < 60 ∧ p.2 < 60) (fun l => [pairsL l]) fun l => natsL (rowsV l)
abbrev sp_rows_that_clash := SpP K cl R_rows_that_clash
abbrev R_is_near := Rof (T := List (Nat × Nat) × Nat × Nat) (fun _ => True) (fun x => [pairsL x.1, natD x.2.1, natD x.2.2]) fun x => .bl (nearV x.1 x.2.1 x.2.2)
abbrev sp_is_near := SpP K cl R_is_near
abbrev R_is_greatest := Rof (T := List Nat × List Nat × List (Nat × Nat)) (fun x => x.1.length < 1000 ∧ x.2.1.length < 1000) (fun x => [natsT x.1, natsL x.2.1, pairsL x.2.2]) fun x => .bl (greatestV x.1 x.2.1 x.2.2)
abbrev sp_is_greatest := SpP K cl R_is_greatest
abbrev R_free_sets := Rof (T := List Nat × List (Nat × Nat)) (fun x => x.1.length ≤ 10) (fun x => [natsL x.1, pairsL x.2]) fun x => setsL (freeV x.1 x.2)
abbrev sp_free_sets := SpP K cl R_free_sets
abbrev R_as_bits := Rof (T := List Nat) (fun l => l.length < 1000 ∧ ∀ i ∈ l, i < 60) (fun l => [natsT l]) fun l => .int (bitsV l)
abbrev sp_as_bits := SpP K cl R_as_bits
abbrev R_greatest_ones := Rof (T := List (List Nat)) (fun l => l.length < 10000 ∧ ∀ s ∈ l, s.length < 1000 ∧ ∀ i ∈ s, i < 60) (fun l => [setsL l]) fun l => setsL (greatestOnes l)
abbrev sp_greatest_ones := SpP K cl R_greatest_ones
abbrev R_mended := Rof (T := Book) (fun B => B.Ok) (fun B => [B.d]) fun B => setsL (mendedV B)
abbrev sp_mended := SpP K cl R_mended
abbrev R_many_mended := Rof (T := Book) (fun B => B.Ok) (fun B => [B.d]) fun B => natD (mendedV B).length
abbrev sp_many_mended := SpP K cl R_many_mended
abbrev R_mended_at := Rof (T := Book × Nat × List Nat) (fun x => x.1.Ok ∧ (mendedV x.1)[x.2.1]? = some x.2.2) (fun x => [x.1.d, natD x.2.1]) fun x => natsT x.2.2
abbrev sp_mended_at := SpP K cl R_mended_at
abbrev R_is_mended := Rof (T := Book × List Nat) (fun x => x.1.Ok) (fun x => [x.1.d, natsT x.2]) fun x => .bl (decide (x.2 ∈ mendedV x.1))
abbrev sp_is_mended := SpP K cl R_is_mended
abbrev R_number_of := Rof (T := Cell) (fun _ => True) (fun c => [c.d]) fun c => .int (numV c)
abbrev sp_number_of := SpP K cl R_number_of
abbrev R_worth := Rof (T := Book × Nat × Nat × Nat) (fun x => x.1.Ok ∧ x.2.1 < x.1.rows.length ∧ ColOk x.1.tabs x.2.2.1 x.2.2.2) (fun x => [x.1.d, natD x.2.1, natD x.2.2.1, natD x.2.2.2]) fun x => .int (worthV x.1.rows x.2.2.1 x.2.2.2 x.2.1)
abbrev sp_worth := SpP K cl R_worth
abbrev R_check_column := Rof (T := Book × Nat × Nat) (fun x => ColOk x.1.tabs x.2.1 x.2.2) (fun x => [x.1.d, natD x.2.1, natD x.2.2]) fun _ => .non
abbrev sp_check_column := SpP K cl R_check_column
abbrev R_sum_in := Rof (T := Book × List Nat × Nat × Nat) (fun x => x.1.Ok ∧ x.2.1.length < 1000 ∧ (∀ i ∈ x.2.1, i < x.1.rows.length) ∧ ColOk x.1.tabs x.2.2.1 x.2.2.2) (fun x => [x.1.d, natsT x.2.1, natD x.2.2.1, natD x.2.2.2]) fun x => .int (sumV x.1.rows x.2.1 x.2.2.1 x.2.2.2)
abbrev sp_sum_in := SpP K cl R_sum_in
abbrev R_best_of := Rof (T := Book × List Nat × Nat × Nat × Int) (fun x => x.1.Ok ∧ x.2.1 ≠ [] ∧ (∀ i ∈ x.2.1, i < x.1.rows.length) ∧ ColOk x.1.tabs x.2.2.1 x.2.2.2.1 ∧ (x.2.2.2.2 = -1 ∨ x.2.2.2.2 = 1)) (fun x => [x.1.d, natsL x.2.1, natD x.2.2.1, natD x.2.2.2.1, .int x.2.2.2.2]) fun x => natD (bestV x.1.rows x.2.2.1 x.2.2.2.1 x.2.2.2.2 x.2.1)
abbrev sp_best_of := SpP K cl R_best_of
abbrev R_sums_by_blocks := Rof (T := Book × Nat × Nat) (fun x => x.1.Ok ∧ x.1.rules = [] ∧ ColOk x.1.tabs x.2.1 x.2.2) (fun x => [x.1.d, natD x.2.1, natD x.2.2]) fun x => (byBlocksV x.1 x.2.1 x.2.2).d
abbrev sp_sums_by_blocks := SpP K cl R_sums_by_blocks
abbrev R_sums_through := Rof (T := Book × Nat × Nat) (fun x => x.1.Ok ∧ ColOk x.1.tabs x.2.1 x.2.2) (fun x => [x.1.d, natD x.2.1, natD x.2.2]) fun x => (throughV x.1 x.2.1 x.2.2).d
abbrev sp_sums_through := SpP K cl R_sums_through
abbrev R_sums := Rof (T := Book × Nat × Nat) (fun x => x.1.Ok ∧ ColOk x.1.tabs x.2.1 x.2.2) (fun x => [x.1.d, natD x.2.1, natD x.2.2]) fun x => (sumsV x.1 x.2.1 x.2.2).d
abbrev sp_sums := SpP K cl R_sums
abbrev R_is_name := Rof (T := Str) (fun x => (Cell.s x).Ok) (fun x => [.str x]) fun _ => .bl true
abbrev sp_is_name := SpP K cl R_is_name
abbrev R_is_value := Rof (T := Cell) (fun c => c.Ok) (fun c => [c.d]) fun _ => .bl true
abbrev sp_is_value := SpP K cl R_is_value
abbrev R_is_whole := Rof (T := Int) (fun _ => True) (fun i => [.int i]) fun _ => .bl true
abbrev sp_is_whole := SpP K cl R_is_whole
abbrev R_is_table := Rof (T := Tab) (fun t => TabOk t) (fun t => [tabD t]) fun _ => .bl true
abbrev sp_is_table := SpP K cl R_is_table
abbrev R_is_in := Rof (T := List Tab × Nat) (fun x => x.2 < x.1.length) (fun x => [tabsD x.1, natD x.2]) fun _ => .bl true
abbrev sp_is_in := SpP K cl R_is_in
abbrev R_is_column := Rof (T := List Tab × Nat × Nat) (fun x => ColOk x.1 x.2.1 x.2.2) (fun x => [tabsD x.1, natD x.2.1, natD x.2.2]) fun _ => .bl true
abbrev sp_is_column := SpP K cl R_is_column
abbrev R_is_side := Rof (T := List Tab × List Nat × Side) (fun x => x.2.2.Ok x.1 x.2.1) (fun x => [tabsD x.1, natsT x.2.1, x.2.2.d]) fun _ => .bl true
abbrev sp_is_side := SpP K cl R_is_side
abbrev R_are_tests := Rof (T := List Tab × List Nat × List Test) (fun x => TestsOk x.1 x.2.1 x.2.2) (fun x => [tabsD x.1, natsT x.2.1, .tup (x.2.2.map Test.d)]) fun _ => .bl true
abbrev sp_are_tests := SpP K cl R_are_tests
abbrev R_are_columns := Rof (T := List Tab × Nat × List Nat × Nat) (fun x => x.2.2.1.length = x.2.2.2 ∧ x.2.2.2 < 1000 ∧ ∀ c ∈ x.2.2.1, ColOk x.1 x.2.1 c) (fun x => [tabsD x.1, natD x.2.1, natsT x.2.2.1, natD x.2.2.2]) fun _ => .bl true
abbrev sp_are_columns := SpP K cl R_are_columns
abbrev R_is_tie := Rof (T := List Tab × Rule) (fun x => x.2.kind = 2 ∧ x.2.Ok x.1) (fun x => [tabsD x.1, x.2.d]) fun _ => .bl true
abbrev sp_is_tie := SpP K cl R_is_tie
abbrev R_is_rule := Rof (T := List Tab × Rule) (fun x => x.2.Ok x.1) (fun x => [tabsD x.1, x.2.d]) fun _ => .bl true
abbrev sp_is_rule := SpP K cl R_is_rule
abbrev R_is_row := Rof (T := List Tab × Row) (fun x => x.2.Ok x.1 ∧ x.2.cs.length < 1000) (fun x => [tabsD x.1, x.2.d]) fun _ => .bl true
abbrev sp_is_row := SpP K cl R_is_row
abbrev R_check_rows := Rof (T := List Tab × List Row) (fun x => (∀ r ∈ x.2, r.Ok x.1 ∧ r.cs.length < 1000) ∧ x.2.Nodup ∧ x.2.length < 1000) (fun x => [tabsD x.1, rowsD x.2]) fun _ => .non
abbrev sp_check_rows := SpP K cl R_check_rows
abbrev R_book_of := Rof (T := Book) (fun B => B.Ok) (fun B => [tabsD B.tabs, rulesD B.rules, rowsD B.rows]) fun B => B.d
abbrev sp_book_of := SpP K cl R_book_of
abbrev R_law_cell_at := Rof (T := List Int × Nat) (fun _ => True) (fun x => [intsL x.1, natD x.2]) fun x => .int (scr x.1 x.2)
abbrev sp_law_cell_at := SpP K cl R_law_cell_at
def PrimeOk (p : Int) : Prop := 1 < p ∧ p < 2147483648
abbrev R_law_mix := Rof (T := Int × Int) (fun x => PrimeOk x.2) (fun x => [.int x.1, .int x.2]) fun x => .int (mixV x.1 x.2)
abbrev sp_law_mix := SpP K cl R_law_mix
abbrev R_law_name := Rof (T := Int) (fun _ => True) (fun n => [.int n]) fun n => .str (nameV n)
abbrev sp_law_name := SpP K cl R_law_name
abbrev R_law_pool := Rof (T := Int) (fun _ => True) (fun c => [.int c]) fun c => cellsL (poolV c)
abbrev sp_law_pool := SpP K cl R_law_pool
abbrev R_law_tables := Rof (T := Int) (fun _ => True) (fun c => [.int c, .int 3]) fun c => tabsD (tablesG c)
abbrev sp_law_tables := SpP K cl R_law_tables
def TabsOk (tabs : List Tab) : Prop := 1 ≤ tabs.length ∧ tabs.length ≤ 4 ∧ ∀ t ∈ tabs, TabOk t
def PoolOk (pool : List Cell) : Prop := pool.length = 7 ∧ ∀ c ∈ pool, c.Ok
def WideOk (w : Int) : Prop := 2 ≤ w ∧ w ≤ 7
abbrev R_law_row := Rof (T := List Tab × List Cell × Int × Int) (fun x => TabsOk x.1 ∧ PoolOk x.2.1 ∧ WideOk x.2.2.1) (fun x => [.int x.2.2.2, tabsD x.1, cellsL x.2.1, .int x.2.2.1]) fun x => (rowG x.1 x.2.1 x.2.2.1 x.2.2.2).d
abbrev sp_law_row := SpP K cl R_law_row
abbrev R_law_rows := Rof (T := List Tab × List Cell × Int × List Int) (fun x => TabsOk x.1 ∧ PoolOk x.2.1 ∧ WideOk x.2.2.1 ∧ x.2.2.2.length < 1000) (fun x => [intsL x.2.2.2, tabsD x.1, cellsL x.2.1, .int x.2.2.1]) fun x => rowsD (rowsG x.1 x.2.1 x.2.2.1 x.2.2.2)
abbrev sp_law_rows := SpP K cl R_law_rows
abbrev R_law_take := RofM (T := Int × Int) (fun x => 0 < x.2 ∧ x.2 < 1000) (fun x => x.1) (fun x => [.int x.2]) (fun x => .int (x.1 % x.2)) fun x => x.1 / x.2
abbrev sp_law_take := SpM K cl R_law_take
def ThereOk (tabs : List Tab) (there : List Nat) : Prop := 1 ≤ there.length ∧ there.length ≤ 2 ∧ ∀ t ∈ there, t < tabs.length
abbrev R_law_side := RofM (T := List Cell × List Tab × List Nat × Int) (fun x => PoolOk x.1 ∧ TabsOk x.2.1 ∧ ThereOk x.2.1 x.2.2.1) (fun x => x.2.2.2) (fun x => [natsT x.2.2.1, tabsD x.2.1, cellsL x.1]) (fun x => (sideG x.1 x.2.1 x.2.2.1 x.2.2.2).1.d) fun x => (sideG x.1 x.2.1 x.2.2.1 x.2.2.2).2
abbrev sp_law_side := SpM K cl R_law_side
abbrev R_law_tests := RofM (T := List Cell × List Tab × List Nat × Int) (fun x => PoolOk x.1 ∧ TabsOk x.2.1 ∧ ThereOk x.2.1 x.2.2.1) (fun x => x.2.2.2) (fun x => [natsT x.2.2.1, tabsD x.2.1, cellsL x.1]) (fun x => .tup ((testsG x.1 x.2.1 x.2.2.1 x.2.2.2).map Test.d)) fun x => testSt x.1 x.2.1 x.2.2.1 (x.2.2.2 / 6) (manyTests x.2.2.2)
abbrev sp_law_tests := SpM K cl R_law_tests
abbrev R_law_rule := Rof (T := List Cell × List Tab × Int) (fun x => PoolOk x.1 ∧ TabsOk x.2.1) (fun x => [.int x.2.2, tabsD x.2.1, cellsL x.1]) fun x => (ruleG x.2.1 x.1 x.2.2).d
abbrev sp_law_rule := SpP K cl R_law_rule
abbrev R_law_idle := Rof (T := List Tab × Int) (fun x => TabsOk x.1) (fun x => [.int x.2, tabsD x.1]) fun x => (idleG x.1 x.2).d
abbrev sp_law_idle := SpP K cl R_law_idle
abbrev R_law_whole := Rof (T := Int) (fun _ => True) (fun i => [.int i]) fun _ => .bl true
abbrev sp_law_whole := SpP K cl R_law_whole
abbrev R_law_turned := Rof (T := List Row) (fun l => l.length < 1000 ∧ ∀ r ∈ l, r.cs.length < 1000) (fun l => [rowsD l]) fun l => rowsD (l.map turnR)
abbrev sp_law_turned := SpP K cl R_law_turned
abbrev R_law_total := Rof (T := List Row × List Nat × Nat × Nat) (fun x => ∀ i ∈ x.2.1, i < x.1.length ∧ ((rowAt x.1 i).t = x.2.2.1 → x.2.2.2 < (rowAt x.1 i).cs.length)) (fun x => [rowsD x.1, natsT x.2.1, natD x.2.2.1, natD x.2.2.2]) fun x => .int (totalV x.1 x.2.1 x.2.2.1 x.2.2.2)
abbrev sp_law_total := SpP K cl R_law_total
/-- what is told is right -/
structure ToldOk (B : Book) (x : Told) (totals : List Int) (t c : Nat) : Prop where
  lo : x.lo ∈ totals ∧ ∀ y ∈ totals, x.lo ≤ y
  hi : x.hi ∈ totals ∧ ∀ y ∈ totals, y ≤ x.hi
  a : x.a ∈ mendedV B ∧ sumV B.rows x.a t c = x.lo
  b : x.b ∈ mendedV B ∧ sumV B.rows x.b t c = x.hi
abbrev R_law_told_right := Rof (T := Book × Told × List Int × Nat × Nat) (fun x => x.1.Ok ∧ ColOk x.1.tabs x.2.2.2.1 x.2.2.2.2 ∧ ToldOk x.1 x.2.1 x.2.2.1 x.2.2.2.1 x.2.2.2.2) (fun x => [x.1.d, x.2.1.d, intsL x.2.2.1, natD x.2.2.2.1, natD x.2.2.2.2]) fun _ => .bl true
abbrev sp_law_told_right := SpP K cl R_law_told_right
/-- a rule that bars nothing -/
def Idle (tabs : List Tab) (r : Rule) : Prop := ∃ t a b, r = .never t [⟨.is (.z a), "same", .is (.z b)⟩] ∧ a ≠ b ∧ r.Ok tabs
abbrev R_law_column_right := Rof (T := Book × Nat × Nat × Rule) (fun x => x.1.Ok ∧ ColOk x.1.tabs x.2.1 x.2.2.1 ∧ Idle x.1.tabs x.2.2.2) (fun x => [x.1.d, .lst ((mendedV x.1).map natsT), natD x.2.1, natD x.2.2.1, x.2.2.2.d]) fun _ => .bl true
abbrev sp_law_column_right := SpP K cl R_law_column_right
abbrev R_law := Rof (T := List Int) (fun ns => ns.length ≤ 63) (fun ns => [intsL ns]) fun _ => .bl true
abbrev sp_law := SpP K cl R_law
end
theorem spP_of {K : PySem.W.Frag} {cl : Nat → Addr} {R : List Dt → Dt → Prop} {N : List Str} {n : Nat} {tt : PySem.W.Frag → (Nat → Addr) → TS} (hA : ∀ ds d, R ds d → ds.length = n) (hn : n ≤ N.length)
    (h : ∀ F : Fx, F.K = K → F.cl = cl → ∀ ds d, R ds d → Wp F (tt F.K F.cl) (ro0 N ds) (endP d)) : ∀ vs H Q E, SpP K cl R vs H Q E → tt K cl { nx := fun _ H' => Q .non H', rt := Q } (start N vs) H :=
  spP_read (fun ds d r => by rw [hA ds d r]; exact hn) fun F hK hc ds d r => by
    have z := h F hK hc ds d r
    rw [hK, hc] at z
    exact z
theorem spM_of {K : PySem.W.Frag} {cl : Nat → Addr} {R : Int → List Dt → Dt → Int → Prop} {n0 : Str} {N : List Str} {n : Nat} {tt : PySem.W.Frag → (Nat → Addr) → TS} (hA : ∀ s ds d s', R s ds d s' → ds.length = n) (hn : n ≤ N.length)
    (h : ∀ F : Fx, F.K = K → F.cl = cl → ∀ s ds d s', R s ds d s' → Wp F (tt F.K F.cl) (ro1 (n0 :: N) s ds) (endM d s')) : ∀ vs H Q E, SpM K cl R vs H Q E → tt K cl { nx := fun _ H' => Q .non H', rt := Q } (start (n0 :: N) vs) H :=
  spM_read (fun s ds d s' r => by rw [hA s ds d s' r]; exact hn) fun F hK hc s ds d s' r => by
    have z := h F hK hc s ds d s' r
    rw [hK, hc] at z
    exact z
theorem Rof.len {T : Type} {P : T → Prop} {A : T → List Dt} {D : T → Dt} {n : Nat} (h : ∀ x, (A x).length = n) : ∀ ds d, Rof P A D ds d → ds.length = n := fun ds d ⟨x, _, e, _⟩ => by
  rw [e]
  exact h x
theorem RofM.len {T : Type} {P : T → Prop} {S : T → Int} {A : T → List Dt} {D : T → Dt} {S2 : T → Int} {n : Nat} (h : ∀ x, (A x).length = n) : ∀ s ds d s', RofM P S A D S2 s ds d s' → ds.length = n := fun s ds d s' ⟨x, _, _, e, _⟩ => by
  rw [e]
  exact h x
theorem spP_len {K : PySem.W.Frag} {cl : Nat → Addr} {R : List Dt → Dt → Prop} {n : Nat} {vs : List V} {H : Hp} {Q : VK} {E : XK} (hA : ∀ ds d, R ds d → ds.length = n) (h : SpP K cl R vs H Q E) : vs.length = n := by
  obtain ⟨O, ds, d, hr, _, ra, _⟩ := h
  rw [ra.length]
  exact hA ds d hr
theorem spM_len {K : PySem.W.Frag} {cl : Nat → Addr} {R : Int → List Dt → Dt → Int → Prop} {n : Nat} {vs : List V} {H : Hp} {Q : VK} {E : XK} (hA : ∀ s ds d s', R s ds d s' → ds.length = n) (h : SpM K cl R vs H Q E) : vs.length = n + 1 := by
  obtain ⟨O, a, us, s, ds, d, s', rfl, hr, _, _, _, ra, _⟩ := h
  rw [List.length_cons, ra.length, hA s ds d s' hr]
end Md
namespace Md
open PySem L2
def t_is_plain (K : PySem.W.Frag) (cl : Nat → Addr) : TS := (tRet (tOp rEq (tCB (rLen K) (tCons (tOp (rIxT K) (tVar 0) (tC (.int 1))) tNil)) (tC (.int 0))))
def t_check_plain (K : PySem.W.Frag) (cl : Nat → Addr) : TS := (tIfS (tNot (tB (tCall (sp_is_plain K cl) [] E0 (tCons (tVar 0) tNil)))) tNever tNext)
def t_key_of (K : PySem.W.Frag) (cl : Nat → Addr) : TS := (tSeq (tAsg (tVar 1) (gTup K 2 (gCons (gName 2) (gCons (gName 3) gNil)))) (tRet (tTup (tCons (tVar 2) (tCons (tSl (rSlA K) (tVar 3) tNoPart (tPart (tOp (rIxT K) (tOp (rIxT K) (tOp (rIxT K) (tVar 0) (tC (.int 0))) (tVar 2)) (tC (.int 1))))) tNil)))))
def t_side_value (K : PySem.W.Frag) (cl : Nat → Addr) : TS := (tSeq (tIfS (tTest (tOp rEq (tOp (rIxT K) (tVar 0) (tC (.int 0))) (tC (.str "is")))) (tRet (tOp (rIxT K) (tVar 0) (tC (.int 1)))) tNext) (tRet (tOp (rIxT K) (tOp (rIxT K) (tOp (rIxT K) (tVar 1) (tOp (rIxT K) (tVar 0) (tC (.int 1)))) (tC (.int 1))) (tOp (rIxT K) (tVar 0) (tC (.int 2))))))
def t_test_holds (K : PySem.W.Frag) (cl : Nat → Addr) : TS := (tSeq (tAsg (tCall (sp_side_value K cl) [] E0 (tCons (tOp (rIxT K) (tVar 0) (tC (.int 0))) (tCons (tVar 1) tNil))) (gName 2)) (tSeq (tAsg (tCall (sp_side_value K cl) [] E0 (tCons (tOp (rIxT K) (tVar 0) (tC (.int 2))) (tCons (tVar 1) tNil))) (gName 3)) (tSeq (tIfS (tTest (tOp rEq (tOp (rIxT K) (tVar 0) (tC (.int 1))) (tC (.str "same")))) (tRet (tOp rEq (tVar 2) (tVar 3))) tNext) (tSeq (tIfS (tTest (tOp rEq (tOp (rIxT K) (tVar 0) (tC (.int 1))) (tC (.str "unlike")))) (tRet (tOp rNe (tVar 2) (tVar 3))) tNext) (tRet (tAndV (tCB (rIsi K) (tCons (tVar 2) (tCons (tC (.ty "int")) tNil))) (tAndV (tCB (rIsi K) (tCons (tVar 3) (tCons (tC (.ty "int")) tNil))) (tOp qLt (tVar 2) (tVar 3)))))))))
def t_all_hold (K : PySem.W.Frag) (cl : Nat → Addr) : TS := (tRet (tCB (rAll K) (tCons (tLc (iTup K (tVar 0)) (gName 2) tYes (tCall (sp_test_holds K cl) [] E0 (tCons (tVar 2) (tCons (tVar 1) tNil))) [2]) tNil)))
def t_init (K : PySem.W.Frag) (cl : Nat → Addr) : TS := (sFld K (tVar 0) (tVar 1) "parts")
def t_bars_Rule (K : PySem.W.Frag) (cl : Nat → Addr) : TS := (tRet (tC (.bl false)))
def t_parts_them_Rule (K : PySem.W.Frag) (cl : Nat → Addr) : TS := (tRet (tC (.bl false)))
def t_lacks_Rule (K : PySem.W.Frag) (cl : Nat → Addr) : TS := (tRet (tC (.bl false)))
def t_bars_Never (K : PySem.W.Frag) (cl : Nat → Addr) : TS := (tRet (tAndV (tOp rEq (tOp (rIxT K) (tVar 1) (tC (.int 0))) (tOp (rIxT K) (tFld K (tVar 0) "parts") (tC (.int 1)))) (tCall (sp_all_hold K cl) [] E0 (tCons (tOp (rIxT K) (tFld K (tVar 0) "parts") (tC (.int 2))) (tCons (tTup (tCons (tVar 1) tNil)) tNil)))))
def t_one_way_Apart (K : PySem.W.Frag) (cl : Nat → Addr) : TS := (tSeq (tIfS (tOr (tTest (tOp rNe (tOp (rIxT K) (tVar 1) (tC (.int 0))) (tOp (rIxT K) (tFld K (tVar 0) "parts") (tC (.int 1))))) (tTest (tOp rNe (tOp (rIxT K) (tVar 2) (tC (.int 0))) (tOp (rIxT K) (tFld K (tVar 0) "parts") (tC (.int 2)))))) (tRet (tC (.bl false))) tNext) (tRet (tCall (sp_all_hold K cl) [] E0 (tCons (tOp (rIxT K) (tFld K (tVar 0) "parts") (tC (.int 3))) (tCons (tTup (tCons (tVar 1) (tCons (tVar 2) tNil))) tNil)))))
def t_parts_them_Apart (K : PySem.W.Frag) (cl : Nat → Addr) : TS := (tRet (tOrV (tMeth (cl 1) "one_way" (sp_one_way_Apart K cl) [] E0 (tVar 0) (tCons (tVar 1) (tCons (tVar 2) tNil))) (tMeth (cl 1) "one_way" (sp_one_way_Apart K cl) [] E0 (tVar 0) (tCons (tVar 2) (tCons (tVar 1) tNil)))))
def t_lacks_Tie (K : PySem.W.Frag) (cl : Nat → Addr) : TS := (tSeq (tIfS (tTest (tOp rNe (tOp (rIxT K) (tVar 1) (tC (.int 0))) (tOp (rIxT K) (tFld K (tVar 0) "parts") (tC (.int 1))))) (tRet (tC (.bl false))) tNext) (tSeq (tAsg (tLc (iTup K (tOp (rIxT K) (tFld K (tVar 0) "parts") (tC (.int 2)))) (gName 4) tYes (tOp (rIxT K) (tOp (rIxT K) (tVar 1) (tC (.int 1))) (tVar 4)) [4]) (gName 3)) (tSeq (tFor (iList K (tVar 2)) (gName 5) (tIfS (tAnd (tTest (tOp rEq (tOp (rIxT K) (tVar 5) (tC (.int 0))) (tOp (rIxT K) (tFld K (tVar 0) "parts") (tC (.int 3))))) (tTest (tOp (rEqD K) (tLc (iTup K (tOp (rIxT K) (tFld K (tVar 0) "parts") (tC (.int 4)))) (gName 4) tYes (tOp (rIxT K) (tOp (rIxT K) (tVar 5) (tC (.int 1))) (tVar 4)) [4]) (tVar 3)))) (tRet (tC (.bl false))) tNext)) (tRet (tC (.bl true))))))
def t_rule_of (K : PySem.W.Frag) (cl : Nat → Addr) : TS := (tSeq (tIfS (tTest (tOp rEq (tOp (rIxT K) (tVar 0) (tC (.int 0))) (tC (.str "never")))) (tRet (tMake (cl 0) (spI (cl 0)) [] E0 (tCons (tVar 0) tNil))) tNext) (tSeq (tIfS (tTest (tOp rEq (tOp (rIxT K) (tVar 0) (tC (.int 0))) (tC (.str "apart")))) (tRet (tMake (cl 1) (spI (cl 1)) [] E0 (tCons (tVar 0) tNil))) tNext) (tRet (tMake (cl 2) (spI (cl 2)) [] E0 (tCons (tVar 0) tNil)))))
def t_rules_of (K : PySem.W.Frag) (cl : Nat → Addr) : TS := (tRet (tLc (iTup K (tOp (rIxT K) (tVar 0) (tC (.int 1)))) (gName 1) tYes (tCall (sp_rule_of K cl) [] E0 (tCons (tVar 1) tNil)) [1]))
def t_key_at (K : PySem.W.Frag) (cl : Nat → Addr) : TS := (tSeq (tAsg (tOp (rIxT K) (tOp (rIxT K) (tVar 0) (tC (.int 2))) (tVar 1)) (gTup K 2 (gCons (gName 2) (gCons (gName 3) gNil)))) (tRet (tTup (tCons (tVar 2) (tCons (tSl (rSlA K) (tVar 3) tNoPart (tPart (tOp (rIxT K) (tOp (rIxT K) (tOp (rIxT K) (tVar 0) (tC (.int 0))) (tVar 2)) (tC (.int 1))))) tNil)))))
def t_alone_breaks (K : PySem.W.Frag) (cl : Nat → Addr) : TS := (tSeq (tAsg (tLst tNil) (gName 3)) (tSeq (tAsg (tLc (iTup K (tVar 2)) (gName 5) tYes (tOp (rIxT K) (tOp (rIxT K) (tVar 0) (tC (.int 2))) (tVar 5)) [5]) (gName 4)) (tSeq (tFor (iTup K (tVar 2)) (gName 5) (tFor (iEnum K (tCons (tVar 1) tNil)) (gTup K 2 (gCons (gName 6) (gCons (gName 7) gNil))) (tSeq (tIfS (tB (tEither (tMeth (cl 0) "bars" (sp_bars_Never K cl) [] E0 (tVar 7) (tCons (tOp (rIxT K) (tOp (rIxT K) (tVar 0) (tC (.int 2))) (tVar 5)) tNil)) (tEither (tMeth (cl 1) "bars" (sp_bars_Apart K cl) [] E0 (tVar 7) (tCons (tOp (rIxT K) (tOp (rIxT K) (tVar 0) (tC (.int 2))) (tVar 5)) tNil)) (tMeth (cl 2) "bars" (sp_bars_Tie K cl) [] E0 (tVar 7) (tCons (tOp (rIxT K) (tOp (rIxT K) (tVar 0) (tC (.int 2))) (tVar 5)) tNil))))) (tDrop (tBM K "list" rAppend (tVar 3) (tCons (tTup (tCons (tC (.str "never")) (tCons (tVar 5) (tCons (tVar 6) tNil)))) tNil))) tNext) (tIfS (tB (tEither (tMeth (cl 0) "lacks" (sp_lacks_Never K cl) [] E0 (tVar 7) (tCons (tOp (rIxT K) (tOp (rIxT K) (tVar 0) (tC (.int 2))) (tVar 5)) (tCons (tVar 4) tNil))) (tEither (tMeth (cl 1) "lacks" (sp_lacks_Apart K cl) [] E0 (tVar 7) (tCons (tOp (rIxT K) (tOp (rIxT K) (tVar 0) (tC (.int 2))) (tVar 5)) (tCons (tVar 4) tNil))) (tMeth (cl 2) "lacks" (sp_lacks_Tie K cl) [] E0 (tVar 7) (tCons (tOp (rIxT K) (tOp (rIxT K) (tVar 0) (tC (.int 2))) (tVar 5)) (tCons (tVar 4) tNil)))))) (tDrop (tBM K "list" rAppend (tVar 3) (tCons (tTup (tCons (tC (.str "tie")) (tCons (tVar 5) (tCons (tVar 6) tNil)))) tNil))) tNext)))) (tRet (tVar 3)))))
def t_pair_breaks (K : PySem.W.Frag) (cl : Nat → Addr) : TS := (tSeq (tAsg (tLst tNil) (gName 3)) (tSeq (tFor (iTup K (tVar 2)) (gName 4) (tFor (iTup K (tVar 2)) (gName 5) (tSeq (tIfS (tAnd (tTest (tOp qLt (tVar 4) (tVar 5))) (tTest (tOp (rEqD K) (tCall (sp_key_at K cl) [] E0 (tCons (tVar 0) (tCons (tVar 4) tNil))) (tCall (sp_key_at K cl) [] E0 (tCons (tVar 0) (tCons (tVar 5) tNil)))))) (tDrop (tBM K "list" rAppend (tVar 3) (tCons (tTup (tCons (tC (.str "key")) (tCons (tVar 4) (tCons (tVar 5) tNil)))) tNil))) tNext) (tFor (iEnum K (tCons (tVar 1) tNil)) (gTup K 2 (gCons (gName 6) (gCons (gName 7) gNil))) (tIfS (tAnd (tTest (tOp qLt (tVar 4) (tVar 5))) (tB (tEither (tMeth (cl 0) "parts_them" (sp_parts_them_Never K cl) [] E0 (tVar 7) (tCons (tOp (rIxT K) (tOp (rIxT K) (tVar 0) (tC (.int 2))) (tVar 4)) (tCons (tOp (rIxT K) (tOp (rIxT K) (tVar 0) (tC (.int 2))) (tVar 5)) tNil))) (tEither (tMeth (cl 1) "parts_them" (sp_parts_them_Apart K cl) [] E0 (tVar 7) (tCons (tOp (rIxT K) (tOp (rIxT K) (tVar 0) (tC (.int 2))) (tVar 4)) (tCons (tOp (rIxT K) (tOp (rIxT K) (tVar 0) (tC (.int 2))) (tVar 5)) tNil))) (tMeth (cl 2) "parts_them" (sp_parts_them_Tie K cl) [] E0 (tVar 7) (tCons (tOp (rIxT K) (tOp (rIxT K) (tVar 0) (tC (.int 2))) (tVar 4)) (tCons (tOp (rIxT K) (tOp (rIxT K) (tVar 0) (tC (.int 2))) (tVar 5)) tNil))))))) (tDrop (tBM K "list" rAppend (tVar 3) (tCons (tTup (tCons (tC (.str "apart")) (tCons (tVar 4) (tCons (tVar 5) (tCons (tVar 6) tNil))))) tNil))) tNext))))) (tRet (tVar 3))))
def t_breaks (K : PySem.W.Frag) (cl : Nat → Addr) : TS := (tSeq (tAsg (tCall (sp_rules_of K cl) [] E0 (tCons (tVar 0) tNil)) (gName 2)) (tRet (tCB (rSortQ K) (tCons (tOp (qCat K) (tCall (sp_alone_breaks K cl) [] E0 (tCons (tVar 0) (tCons (tVar 2) (tCons (tVar 1) tNil)))) (tCall (sp_pair_breaks K cl) [] E0 (tCons (tVar 0) (tCons (tVar 2) (tCons (tVar 1) tNil))))) tNil))))
def t_good (K : PySem.W.Frag) (cl : Nat → Addr) : TS := (tRet (tOp (rEqD K) (tCall (sp_breaks K cl) [] E0 (tCons (tVar 0) (tCons (tVar 1) tNil))) (tLst tNil)))
def t_held (K : PySem.W.Frag) (cl : Nat → Addr) : TS := (tSeq (tAsg (tCall (sp_rules_of K cl) [] E0 (tCons (tVar 0) tNil)) (gName 2)) (tSeq (tAsg (tLc (iTup K (tVar 1)) (gName 4) (tNot (tB (tCB (rAny K) (tCons (tLc (iList K (tVar 2)) (gName 5) tYes (tEither (tMeth (cl 0) "bars" (sp_bars_Never K cl) [] E0 (tVar 5) (tCons (tOp (rIxT K) (tOp (rIxT K) (tVar 0) (tC (.int 2))) (tVar 4)) tNil)) (tEither (tMeth (cl 1) "bars" (sp_bars_Apart K cl) [] E0 (tVar 5) (tCons (tOp (rIxT K) (tOp (rIxT K) (tVar 0) (tC (.int 2))) (tVar 4)) tNil)) (tMeth (cl 2) "bars" (sp_bars_Tie K cl) [] E0 (tVar 5) (tCons (tOp (rIxT K) (tOp (rIxT K) (tVar 0) (tC (.int 2))) (tVar 4)) tNil)))) [5]) tNil)))) (tVar 4) [4]) (gName 3)) (tSeq (tAsg (tUn qNeg (tC (.int 1))) (gName 6)) (tSeq (tWhile (tTest (tOp rNe (tVar 6) (tCB (rLen K) (tCons (tVar 3) tNil)))) (tSeq (tAsg (tCB (rLen K) (tCons (tVar 3) tNil)) (gName 6)) (tSeq (tAsg (tLc (iList K (tVar 3)) (gName 4) tYes (tOp (rIxT K) (tOp (rIxT K) (tVar 0) (tC (.int 2))) (tVar 4)) [4]) (gName 7)) (tAsg (tLc (iList K (tVar 3)) (gName 4) (tNot (tB (tCB (rAny K) (tCons (tLc (iList K (tVar 2)) (gName 5) tYes (tEither (tMeth (cl 0) "lacks" (sp_lacks_Never K cl) [] E0 (tVar 5) (tCons (tOp (rIxT K) (tOp (rIxT K) (tVar 0) (tC (.int 2))) (tVar 4)) (tCons (tVar 7) tNil))) (tEither (tMeth (cl 1) "lacks" (sp_lacks_Apart K cl) [] E0 (tVar 5) (tCons (tOp (rIxT K) (tOp (rIxT K) (tVar 0) (tC (.int 2))) (tVar 4)) (tCons (tVar 7) tNil))) (tMeth (cl 2) "lacks" (sp_lacks_Tie K cl) [] E0 (tVar 5) (tCons (tOp (rIxT K) (tOp (rIxT K) (tVar 0) (tC (.int 2))) (tVar 4)) (tCons (tVar 7) tNil))))) [5]) tNil)))) (tVar 4) [4]) (gName 3))))) (tRet (tCB (rTuple K) (tCons (tVar 3) tNil)))))))
def t_clashes (K : PySem.W.Frag) (cl : Nat → Addr) : TS := (tSeq (tAsg tDNewT (gName 1)) (tSeq (tFor (iList K (tCall (sp_pair_breaks K cl) [] E0 (tCons (tVar 0) (tCons (tCall (sp_rules_of K cl) [] E0 (tCons (tVar 0) tNil)) (tCons (tCall (sp_held K cl) [] E0 (tCons (tVar 0) (tCons (tTupRg (tRg1 (tCB (rLen K) (tCons (tOp (rIxT K) (tVar 0) (tC (.int 2))) tNil)))) tNil))) tNil))))) (gName 2) (sDPut (tVar 1) (tTup (tCons (tOp (rIxT K) (tVar 2) (tC (.int 1))) (tCons (tOp (rIxT K) (tVar 2) (tC (.int 2))) tNil))) (tC (.bl true)))) (tRet (tCB (rSortDT K) (tCons (tVar 1) tNil)))))
def t_rows_that_clash (K : PySem.W.Frag) (cl : Nat → Addr) : TS := (tSeq (tAsg tDNewK (gName 1)) (tSeq (tFor (iList K (tVar 0)) (gTup K 2 (gCons (gName 2) (gCons (gName 3) gNil))) (tSeq (sDPut (tVar 1) (tVar 2) (tC (.bl true))) (sDPut (tVar 1) (tVar 3) (tC (.bl true))))) (tRet (tCB rSortDI (tCons (tVar 1) tNil)))))
def t_is_near (K : PySem.W.Frag) (cl : Nat → Addr) : TS := (tRet (tOp (rInD K) (tTup (tCons (tCB rMin2 (tCons (tVar 1) (tCons (tVar 2) tNil))) (tCons (tCB rMax2 (tCons (tVar 1) (tCons (tVar 2) tNil))) tNil))) (tVar 0)))
def t_is_greatest (K : PySem.W.Frag) (cl : Nat → Addr) : TS := (tSeq (tFor (iList K (tVar 1)) (gName 3) (tIfS (tAnd (tTest (tOp (rIn K true) (tVar 3) (tVar 0))) (tNot (tB (tCB (rAny K) (tCons (tLc (iTup K (tVar 0)) (gName 4) tYes (tCall (sp_is_near K cl) [] E0 (tCons (tVar 2) (tCons (tVar 3) (tCons (tVar 4) tNil)))) [4]) tNil))))) (tRet (tC (.bl false))) tNext)) (tRet (tC (.bl true))))
def t_free_sets (K : PySem.W.Frag) (cl : Nat → Addr) : TS := (tSeq (tAsg (tLst (tCons (tTup tNil) tNil)) (gName 2)) (tSeq (tFor (iEnum K (tCons (tVar 0) tNil)) (gTup K 2 (gCons (gName 3) (gCons (gName 4) gNil))) (tSeq (tAsg tDNewT (gName 5)) (tSeq (tFor (iList K (tVar 2)) (gName 6) (tSeq (tAsg (tCB (rTuple K) (tCons (tLc (iTup K (tVar 6)) (gName 8) (tNot (tB (tCall (sp_is_near K cl) [] E0 (tCons (tVar 1) (tCons (tVar 4) (tCons (tVar 8) tNil)))))) (tVar 8) [8]) tNil)) (gName 7)) (tSeq (tIfS (tTest (tOp qLt (tCB (rLen K) (tCons (tVar 7) tNil)) (tCB (rLen K) (tCons (tVar 6) tNil)))) (sDPut (tVar 5) (tVar 6) (tC (.bl true))) tNext) (tIfS (tOr (tTest (tOp rEq (tCB (rLen K) (tCons (tVar 7) tNil)) (tCB (rLen K) (tCons (tVar 6) tNil)))) (tB (tCall (sp_is_greatest K cl) [] E0 (tCons (tOp (rCatA K) (tVar 7) (tTup (tCons (tVar 4) tNil))) (tCons (tSl (rSlL K) (tVar 0) tNoPart (tPart (tVar 3))) (tCons (tVar 1) tNil)))))) (sDPut (tVar 5) (tOp (rCatA K) (tVar 7) (tTup (tCons (tVar 4) tNil))) (tC (.bl true))) tNext)))) (tAsg (tCB rListDT (tCons (tVar 5) tNil)) (gName 2))))) (tRet (tVar 2))))
def t_as_bits (K : PySem.W.Frag) (cl : Nat → Addr) : TS := (tSeq (tAsg (tC (.int 0)) (gName 1)) (tSeq (tFor (iTup K (tVar 0)) (gName 2) (tAsg (tOp qOr (tVar 1) (tOp qShl (tC (.int 1)) (tVar 2))) (gName 1))) (tRet (tVar 1))))
def t_greatest_ones (K : PySem.W.Frag) (cl : Nat → Addr) : TS := (tSeq (tAsg tDNewK (gName 1)) (tSeq (tFor (iList K (tVar 0)) (gName 2) (sDPut (tVar 1) (tCall (sp_as_bits K cl) [] E0 (tCons (tVar 2) tNil)) (tVar 2))) (tSeq (tAsg (tLst tNil) (gName 3)) (tSeq (tLock (tFor (iKeys (tVar 1)) (gName 4) (tIfS (tNot (tB (tCB (rAny K) (tCons (tLc (iKeys (tVar 1)) (gName 5) tYes (tAndV (tOp rNe (tVar 4) (tVar 5)) (tOp rEq (tOp qAnd (tVar 4) (tVar 5)) (tVar 4))) [5]) tNil)))) (tDrop (tBM K "list" rAppend (tVar 3) (tCons (tDGet (tVar 1) (tVar 4)) tNil))) tNext))) (tRet (tVar 3))))))
def t_mended (K : PySem.W.Frag) (cl : Nat → Addr) : TS := (tSeq (tAsg (tCall (sp_clashes K cl) [] E0 (tCons (tVar 0) tNil)) (gName 1)) (tSeq (tAsg (tCall (sp_rows_that_clash K cl) [] E0 (tCons (tVar 1) tNil)) (gName 2)) (tSeq (tIfS (tTest (tOp qGt (tCB (rLen K) (tCons (tVar 2) tNil)) (tC (.int 15)))) tNever tNext) (tSeq (tAsg (tLc (iTup K (tCall (sp_held K cl) [] E0 (tCons (tVar 0) (tCons (tTupRg (tRg1 (tCB (rLen K) (tCons (tOp (rIxT K) (tVar 0) (tC (.int 2))) tNil)))) tNil)))) (gName 4) (tTest (tOp (rIn K true) (tVar 4) (tVar 2))) (tVar 4) [4]) (gName 3)) (tSeq (tAsg (tLc (iList K (tCall (sp_free_sets K cl) [] E0 (tCons (tVar 2) (tCons (tVar 1) tNil)))) (gName 6) tYes (tCall (sp_held K cl) [] E0 (tCons (tVar 0) (tCons (tCB (rTuple K) (tCons (tCB (rSorted K) (tCons (tOp (qCat K) (tCB (rList K) (tCons (tVar 6) tNil)) (tVar 3)) tNil)) tNil)) tNil))) [6]) (gName 5)) (tRet (tCB (rSortQ K) (tCons (tCall (sp_greatest_ones K cl) [] E0 (tCons (tVar 5) tNil)) tNil))))))))
def t_many_mended (K : PySem.W.Frag) (cl : Nat → Addr) : TS := (tRet (tCB (rLen K) (tCons (tCall (sp_mended K cl) [] E0 (tCons (tVar 0) tNil)) tNil)))
def t_mended_at (K : PySem.W.Frag) (cl : Nat → Addr) : TS := (tSeq (tAsg (tCall (sp_mended K cl) [] E0 (tCons (tVar 0) tNil)) (gName 2)) (tSeq (tIfS (tNot (tTest (tChain qLe qLt (tC (.int 0)) (tVar 1) (tCB (rLen K) (tCons (tVar 2) tNil))))) tNever tNext) (tRet (tOp (rIxL K) (tVar 2) (tVar 1)))))
def t_is_mended (K : PySem.W.Frag) (cl : Nat → Addr) : TS := (tRet (tOp (rInD K) (tVar 1) (tCall (sp_mended K cl) [] E0 (tCons (tVar 0) tNil))))
def t_number_of (K : PySem.W.Frag) (cl : Nat → Addr) : TS := (tSeq (tIfS (tB (tCB (rIsi K) (tCons (tVar 0) (tCons (tC (.ty "str")) tNil)))) (tRet (tC (.int 0))) tNext) (tRet (tVar 0)))
def t_worth (K : PySem.W.Frag) (cl : Nat → Addr) : TS := (tSeq (tAsg (tOp (rIxT K) (tOp (rIxT K) (tVar 0) (tC (.int 2))) (tVar 1)) (gTup K 2 (gCons (gName 4) (gCons (gName 5) gNil)))) (tSeq (tIfS (tTest (tOp rNe (tVar 4) (tVar 2))) (tRet (tC (.int 0))) tNext) (tRet (tCall (sp_number_of K cl) [] E0 (tCons (tOp (rIxT K) (tVar 5) (tVar 3)) tNil)))))
def t_check_column (K : PySem.W.Frag) (cl : Nat → Addr) : TS := (tIfS (tOr (tNot (tTest (tChain qLe qLt (tC (.int 0)) (tVar 1) (tCB (rLen K) (tCons (tOp (rIxT K) (tVar 0) (tC (.int 0))) tNil))))) (tNot (tTest (tChain qLe qLt (tC (.int 0)) (tVar 2) (tOp (rIxT K) (tOp (rIxT K) (tOp (rIxT K) (tVar 0) (tC (.int 0))) (tVar 1)) (tC (.int 0))))))) tNever tNext)
def t_sum_in (K : PySem.W.Frag) (cl : Nat → Addr) : TS := (tSeq (tDrop (tCall (sp_check_column K cl) [] E0 (tCons (tVar 0) (tCons (tVar 2) (tCons (tVar 3) tNil))))) (tRet (tCB (rSum K) (tCons (tLc (iTup K (tVar 1)) (gName 4) tYes (tCall (sp_worth K cl) [] E0 (tCons (tVar 0) (tCons (tVar 4) (tCons (tVar 2) (tCons (tVar 3) tNil))))) [4]) tNil))))
def t_best_of (K : PySem.W.Frag) (cl : Nat → Addr) : TS := (tSeq (tAsg (tOp (rIxL K) (tVar 1) (tC (.int 0))) (gName 5)) (tSeq (tFor (iList K (tVar 1)) (gName 6) (tIfS (tTest (tOp qGt (tOp qMulW (tVar 4) (tCall (sp_worth K cl) [] E0 (tCons (tVar 0) (tCons (tVar 6) (tCons (tVar 2) (tCons (tVar 3) tNil)))))) (tOp qMulW (tVar 4) (tCall (sp_worth K cl) [] E0 (tCons (tVar 0) (tCons (tVar 5) (tCons (tVar 2) (tCons (tVar 3) tNil)))))))) (tAsg (tVar 6) (gName 5)) tNext)) (tRet (tVar 5))))
def t_sums_by_blocks (K : PySem.W.Frag) (cl : Nat → Addr) : TS := (tSeq (tAsg (tTup tNil) (gName 3)) (tSeq (tFor (iTup K (tTup (tCons (tUn qNeg (tC (.int 1))) (tCons (tC (.int 1)) tNil)))) (gName 4) (tSeq (tAsg (tCB (rTuple K) (tCons (tCB (rSorted K) (tCons (tLc (iList K (tCall (sp_blocks K cl) [] E0 (tCons (tVar 0) tNil))) (gName 6) tYes (tCall (sp_best_of K cl) [] E0 (tCons (tVar 0) (tCons (tVar 6) (tCons (tVar 1) (tCons (tVar 2) (tCons (tVar 4) tNil)))))) [6]) tNil)) tNil)) (gName 5)) (tAsg (tOp (rCatA K) (tVar 3) (tTup (tCons (tCall (sp_sum_in K cl) [] E0 (tCons (tVar 0) (tCons (tVar 5) (tCons (tVar 1) (tCons (tVar 2) tNil))))) (tCons (tVar 5) tNil)))) (gName 3)))) (tRet (tVar 3))))
def t_sums_through (K : PySem.W.Frag) (cl : Nat → Addr) : TS := (tSeq (tAsg (tCall (sp_mended K cl) [] E0 (tCons (tVar 0) tNil)) (gName 3)) (tSeq (tAsg (tLc (iList K (tVar 3)) (gName 5) tYes (tCall (sp_sum_in K cl) [] E0 (tCons (tVar 0) (tCons (tVar 5) (tCons (tVar 1) (tCons (tVar 2) tNil))))) [5]) (gName 4)) (tSeq (tAsg (tCB (rMin K) (tCons (tVar 4) tNil)) (gName 6)) (tSeq (tAsg (tCB (rMax K) (tCons (tVar 4) tNil)) (gName 7)) (tRet (tTup (tCons (tVar 6) (tCons (tOp (rIxL K) (tVar 3) (tBM K "list" (rIndex K) (tVar 4) (tCons (tVar 6) tNil))) (tCons (tVar 7) (tCons (tOp (rIxL K) (tVar 3) (tBM K "list" (rIndex K) (tVar 4) (tCons (tVar 7) tNil))) tNil))))))))))
def t_sums (K : PySem.W.Frag) (cl : Nat → Addr) : TS := (tSeq (tDrop (tCall (sp_check_column K cl) [] E0 (tCons (tVar 0) (tCons (tVar 1) (tCons (tVar 2) tNil))))) (tSeq (tIfS (tB (tCall (sp_is_plain K cl) [] E0 (tCons (tVar 0) tNil))) (tRet (tCall (sp_sums_by_blocks K cl) [] E0 (tCons (tVar 0) (tCons (tVar 1) (tCons (tVar 2) tNil))))) tNext) (tRet (tCall (sp_sums_through K cl) [] E0 (tCons (tVar 0) (tCons (tVar 1) (tCons (tVar 2) tNil)))))))
def t_is_name (K : PySem.W.Frag) (cl : Nat → Addr) : TS := (tSeq (tIfS (tOr (tNot (tB (tCB (rIsi K) (tCons (tVar 0) (tCons (tC (.ty "str")) tNil))))) (tOr (tTest (tOp qLt (tCB rLenZ (tCons (tVar 0) tNil)) (tC (.int 1)))) (tTest (tOp qGt (tCB rLenZ (tCons (tVar 0) tNil)) (tC (.int 8)))))) (tRet (tC (.bl false))) tNext) (tRet (tCB (rAll K) (tCons (tLc (iStr (tVar 0)) (gName 1) tYes (tOp qInS (tVar 1) (tC (.str "abcdefghijklmnopqrstuvwxyz"))) [1]) tNil))))
def t_is_value (K : PySem.W.Frag) (cl : Nat → Addr) : TS := (tSeq (tIfS (tAnd (tB (tCB (rIsi K) (tCons (tVar 0) (tCons (tC (.ty "int")) tNil)))) (tNot (tB (tCB (rIsi K) (tCons (tVar 0) (tCons (tC (.ty "bool")) tNil)))))) (tRet (tChain qLt qLt (tOp qSub (tC (.int 0)) (tC (.int 1000000000000000000000000000000))) (tVar 0) (tC (.int 1000000000000000000000000000000)))) tNext) (tRet (tCall (sp_is_name K cl) [] E0 (tCons (tVar 0) tNil))))
def t_is_whole (K : PySem.W.Frag) (cl : Nat → Addr) : TS := (tRet (tAndV (tCB (rIsi K) (tCons (tVar 0) (tCons (tC (.ty "int")) tNil))) (tNotV (tCB (rIsi K) (tCons (tVar 0) (tCons (tC (.ty "bool")) tNil))))))
def t_is_table (K : PySem.W.Frag) (cl : Nat → Addr) : TS := (tSeq (tIfS (tOr (tNot (tB (tCB (rIsi K) (tCons (tVar 0) (tCons (tC (.ty "tuple")) tNil))))) (tTest (tOp rNe (tCB (rLen K) (tCons (tVar 0) tNil)) (tC (.int 2))))) (tRet (tC (.bl false))) tNext) (tSeq (tIfS (tOr (tNot (tB (tCall (sp_is_whole K cl) [] E0 (tCons (tOp (rIxT K) (tVar 0) (tC (.int 0))) tNil)))) (tNot (tB (tCall (sp_is_whole K cl) [] E0 (tCons (tOp (rIxT K) (tVar 0) (tC (.int 1))) tNil))))) (tRet (tC (.bl false))) tNext) (tRet (tAndV (tChain qLe qLe (tC (.int 1)) (tOp (rIxT K) (tVar 0) (tC (.int 0))) (tC (.int 4))) (tChain qLe qLe (tC (.int 0)) (tOp (rIxT K) (tVar 0) (tC (.int 1))) (tOp (rIxT K) (tVar 0) (tC (.int 0))))))))
def t_is_in (K : PySem.W.Frag) (cl : Nat → Addr) : TS := (tRet (tAndV (tCall (sp_is_whole K cl) [] E0 (tCons (tVar 1) tNil)) (tChain qLe qLt (tC (.int 0)) (tVar 1) (tCB (rLen K) (tCons (tVar 0) tNil)))))
def t_is_column (K : PySem.W.Frag) (cl : Nat → Addr) : TS := (tRet (tAndV (tCall (sp_is_whole K cl) [] E0 (tCons (tVar 2) tNil)) (tChain qLe qLt (tC (.int 0)) (tVar 2) (tOp (rIxT K) (tOp (rIxT K) (tVar 0) (tVar 1)) (tC (.int 0))))))
def t_is_side (K : PySem.W.Frag) (cl : Nat → Addr) : TS := (tSeq (tIfS (tOr (tNot (tB (tCB (rIsi K) (tCons (tVar 2) (tCons (tC (.ty "tuple")) tNil))))) (tTest (tOp qLt (tCB (rLen K) (tCons (tVar 2) tNil)) (tC (.int 2))))) (tRet (tC (.bl false))) tNext) (tSeq (tIfS (tTest (tOp rEq (tCB (rLen K) (tCons (tVar 2) tNil)) (tC (.int 2)))) (tRet (tAndV (tOp rEq (tOp (rIxT K) (tVar 2) (tC (.int 0))) (tC (.str "is"))) (tCall (sp_is_value K cl) [] E0 (tCons (tOp (rIxT K) (tVar 2) (tC (.int 1))) tNil)))) tNext) (tSeq (tIfS (tOr (tTest (tOp rNe (tCB (rLen K) (tCons (tVar 2) tNil)) (tC (.int 3)))) (tOr (tTest (tOp rNe (tOp (rIxT K) (tVar 2) (tC (.int 0))) (tC (.str "cell")))) (tOr (tNot (tB (tCall (sp_is_whole K cl) [] E0 (tCons (tOp (rIxT K) (tVar 2) (tC (.int 1))) tNil)))) (tNot (tTest (tChain qLe qLt (tC (.int 0)) (tOp (rIxT K) (tVar 2) (tC (.int 1))) (tCB (rLen K) (tCons (tVar 1) tNil)))))))) (tRet (tC (.bl false))) tNext) (tRet (tCall (sp_is_column K cl) [] E0 (tCons (tVar 0) (tCons (tOp (rIxT K) (tVar 1) (tOp (rIxT K) (tVar 2) (tC (.int 1)))) (tCons (tOp (rIxT K) (tVar 2) (tC (.int 2))) tNil))))))))
def t_are_tests (K : PySem.W.Frag) (cl : Nat → Addr) : TS := (tSeq (tIfS (tOr (tNot (tB (tCB (rIsi K) (tCons (tVar 2) (tCons (tC (.ty "tuple")) tNil))))) (tNot (tTest (tChain qLe qLe (tC (.int 1)) (tCB (rLen K) (tCons (tVar 2) tNil)) (tC (.int 3)))))) (tRet (tC (.bl false))) tNext) (tSeq (tFor (iTup K (tVar 2)) (gName 3) (tSeq (tIfS (tOr (tNot (tB (tCB (rIsi K) (tCons (tVar 3) (tCons (tC (.ty "tuple")) tNil))))) (tOr (tTest (tOp rNe (tCB (rLen K) (tCons (tVar 3) tNil)) (tC (.int 3)))) (tTest (tOp (rIn K true) (tOp (rIxT K) (tVar 3) (tC (.int 1))) (tC (.ref (He.ga K "WORDS"))))))) (tRet (tC (.bl false))) tNext) (tIfS (tOr (tNot (tB (tCall (sp_is_side K cl) [] E0 (tCons (tVar 0) (tCons (tVar 1) (tCons (tOp (rIxT K) (tVar 3) (tC (.int 0))) tNil)))))) (tNot (tB (tCall (sp_is_side K cl) [] E0 (tCons (tVar 0) (tCons (tVar 1) (tCons (tOp (rIxT K) (tVar 3) (tC (.int 2))) tNil))))))) (tRet (tC (.bl false))) tNext))) (tRet (tC (.bl true)))))
def t_are_columns (K : PySem.W.Frag) (cl : Nat → Addr) : TS := (tSeq (tIfS (tOr (tNot (tB (tCB (rIsi K) (tCons (tVar 2) (tCons (tC (.ty "tuple")) tNil))))) (tTest (tOp rNe (tCB (rLen K) (tCons (tVar 2) tNil)) (tVar 3)))) (tRet (tC (.bl false))) tNext) (tRet (tCB (rAll K) (tCons (tLc (iTup K (tVar 2)) (gName 4) tYes (tCall (sp_is_column K cl) [] E0 (tCons (tVar 0) (tCons (tVar 1) (tCons (tVar 4) tNil)))) [4]) tNil))))
def t_is_tie (K : PySem.W.Frag) (cl : Nat → Addr) : TS := (tSeq (tIfS (tOr (tTest (tOp rNe (tCB (rLen K) (tCons (tVar 1) tNil)) (tC (.int 5)))) (tOr (tNot (tB (tCall (sp_is_in K cl) [] E0 (tCons (tVar 0) (tCons (tOp (rIxT K) (tVar 1) (tC (.int 1))) tNil))))) (tNot (tB (tCall (sp_is_in K cl) [] E0 (tCons (tVar 0) (tCons (tOp (rIxT K) (tVar 1) (tC (.int 3))) tNil))))))) (tRet (tC (.bl false))) tNext) (tSeq (tAsg (tOp (rIxT K) (tVar 1) (tC (.int 2))) (gName 2)) (tSeq (tIfS (tOr (tNot (tB (tCB (rIsi K) (tCons (tVar 2) (tCons (tC (.ty "tuple")) tNil))))) (tNot (tTest (tChain qLe qLe (tC (.int 1)) (tCB (rLen K) (tCons (tVar 2) tNil)) (tC (.int 3)))))) (tRet (tC (.bl false))) tNext) (tRet (tAndV (tCall (sp_are_columns K cl) [] E0 (tCons (tVar 0) (tCons (tOp (rIxT K) (tVar 1) (tC (.int 1))) (tCons (tVar 2) (tCons (tCB (rLen K) (tCons (tVar 2) tNil)) tNil))))) (tCall (sp_are_columns K cl) [] E0 (tCons (tVar 0) (tCons (tOp (rIxT K) (tVar 1) (tC (.int 3))) (tCons (tOp (rIxT K) (tVar 1) (tC (.int 4))) (tCons (tCB (rLen K) (tCons (tVar 2) tNil)) tNil))))))))))
def t_is_rule (K : PySem.W.Frag) (cl : Nat → Addr) : TS := (tSeq (tIfS (tTest (tOp rEq (tOp (rIxT K) (tVar 1) (tC (.int 0))) (tC (.str "never")))) (tRet (tAndV (tOp rEq (tCB (rLen K) (tCons (tVar 1) tNil)) (tC (.int 3))) (tAndV (tCall (sp_is_in K cl) [] E0 (tCons (tVar 0) (tCons (tOp (rIxT K) (tVar 1) (tC (.int 1))) tNil))) (tCall (sp_are_tests K cl) [] E0 (tCons (tVar 0) (tCons (tTup (tCons (tOp (rIxT K) (tVar 1) (tC (.int 1))) tNil)) (tCons (tOp (rIxT K) (tVar 1) (tC (.int 2))) tNil))))))) tNext) (tSeq (tIfS (tTest (tOp rEq (tOp (rIxT K) (tVar 1) (tC (.int 0))) (tC (.str "apart")))) (tSeq (tIfS (tOr (tTest (tOp rNe (tCB (rLen K) (tCons (tVar 1) tNil)) (tC (.int 4)))) (tOr (tNot (tB (tCall (sp_is_in K cl) [] E0 (tCons (tVar 0) (tCons (tOp (rIxT K) (tVar 1) (tC (.int 1))) tNil))))) (tNot (tB (tCall (sp_is_in K cl) [] E0 (tCons (tVar 0) (tCons (tOp (rIxT K) (tVar 1) (tC (.int 2))) tNil))))))) (tRet (tC (.bl false))) tNext) (tRet (tCall (sp_are_tests K cl) [] E0 (tCons (tVar 0) (tCons (tTup (tCons (tOp (rIxT K) (tVar 1) (tC (.int 1))) (tCons (tOp (rIxT K) (tVar 1) (tC (.int 2))) tNil))) (tCons (tOp (rIxT K) (tVar 1) (tC (.int 3))) tNil)))))) tNext) (tRet (tAndV (tOp rEq (tOp (rIxT K) (tVar 1) (tC (.int 0))) (tC (.str "tie"))) (tCall (sp_is_tie K cl) [] E0 (tCons (tVar 0) (tCons (tVar 1) tNil)))))))
def t_is_row (K : PySem.W.Frag) (cl : Nat → Addr) : TS := (tSeq (tIfS (tOr (tNot (tB (tCB (rIsi K) (tCons (tVar 1) (tCons (tC (.ty "tuple")) tNil))))) (tOr (tTest (tOp rNe (tCB (rLen K) (tCons (tVar 1) tNil)) (tC (.int 2)))) (tNot (tB (tCall (sp_is_in K cl) [] E0 (tCons (tVar 0) (tCons (tOp (rIxT K) (tVar 1) (tC (.int 0))) tNil))))))) (tRet (tC (.bl false))) tNext) (tSeq (tIfS (tOr (tNot (tB (tCB (rIsi K) (tCons (tOp (rIxT K) (tVar 1) (tC (.int 1))) (tCons (tC (.ty "tuple")) tNil))))) (tTest (tOp rNe (tCB (rLen K) (tCons (tOp (rIxT K) (tVar 1) (tC (.int 1))) tNil)) (tOp (rIxT K) (tOp (rIxT K) (tVar 0) (tOp (rIxT K) (tVar 1) (tC (.int 0)))) (tC (.int 0)))))) (tRet (tC (.bl false))) tNext) (tRet (tCB (rAll K) (tCons (tLc (iTup K (tOp (rIxT K) (tVar 1) (tC (.int 1)))) (gName 2) tYes (tCall (sp_is_value K cl) [] E0 (tCons (tVar 2) tNil)) [2]) tNil)))))
def t_check_rows (K : PySem.W.Frag) (cl : Nat → Addr) : TS := (tSeq (tFor (iEnumT K (tCons (tVar 1) tNil)) (gTup K 2 (gCons (gName 2) (gCons (gName 3) gNil))) (tIfS (tNot (tB (tCall (sp_is_row K cl) [] E0 (tCons (tVar 0) (tCons (tVar 3) tNil))))) tNever tNext)) (tFor (iEnumT K (tCons (tVar 1) tNil)) (gTup K 2 (gCons (gName 2) (gCons (gName 3) gNil))) (tIfS (tTest (tOp (rInDT K) (tVar 3) (tSl (rSlA K) (tVar 1) tNoPart (tPart (tVar 2))))) tNever tNext)))
def t_book_of (K : PySem.W.Frag) (cl : Nat → Addr) : TS := (tSeq (tIfS (tOr (tTest (tOp qGt (tCB (rLen K) (tCons (tVar 0) tNil)) (tC (.int 4)))) (tOr (tTest (tOp qGt (tCB (rLen K) (tCons (tVar 1) tNil)) (tC (.int 6)))) (tTest (tOp qGt (tCB (rLen K) (tCons (tVar 2) tNil)) (tC (.int 60)))))) tNever tNext) (tSeq (tFor (iEnumT K (tCons (tVar 0) tNil)) (gTup K 2 (gCons (gName 3) (gCons (gName 4) gNil))) (tIfS (tNot (tB (tCall (sp_is_table K cl) [] E0 (tCons (tVar 4) tNil)))) tNever tNext)) (tSeq (tIfS (tTest (tOp rEq (tCB (rLen K) (tCons (tVar 0) tNil)) (tC (.int 0)))) tNever tNext) (tSeq (tFor (iEnumT K (tCons (tVar 1) tNil)) (gTup K 2 (gCons (gName 3) (gCons (gName 5) gNil))) (tIfS (tNot (tB (tCall (sp_is_rule K cl) [] E0 (tCons (tVar 0) (tCons (tVar 5) tNil))))) tNever tNext)) (tSeq (tDrop (tCall (sp_check_rows K cl) [] E0 (tCons (tVar 0) (tCons (tVar 2) tNil)))) (tRet (tTup (tCons (tCB (rTuple K) (tCons (tVar 0) tNil)) (tCons (tCB (rTuple K) (tCons (tVar 1) tNil)) (tCons (tCB (rTuple K) (tCons (tVar 2) tNil)) tNil))))))))))
def t_law_cell_at (K : PySem.W.Frag) (cl : Nat → Addr) : TS := (tSeq (tIfS (tTest (tOp qLt (tVar 1) (tCB (rLen K) (tCons (tVar 0) tNil)))) (tRet (tOp (rIxL K) (tVar 0) (tVar 1))) tNext) (tRet (tC (.int 0))))
def t_law_mix (K : PySem.W.Frag) (cl : Nat → Addr) : TS := (tSeq (tIfS (tTest (tOp rEq (tOp qMod (tVar 0) (tC (.int 2))) (tC (.int 0)))) (tRet (tOp qMod (tOp qDiv (tVar 0) (tC (.int 2))) (tOp qPow (tOp qPow (tC (.int 10)) (tC (.int 60))) (tC (.int 10))))) tNext) (tSeq (tAsg (tOp qMod (tOp qMulW (tOp qAdd (tOp qMod (tVar 0) (tC (.int 2147483629))) (tC (.int 7))) (tC (.int 48271))) (tVar 1)) (gName 2)) (tRet (tOp qAdd (tOp qMulW (tOp qMod (tOp qMulW (tVar 2) (tVar 2)) (tC (.int 2147483579))) (tC (.int 1000003))) (tVar 2)))))
def t_law_name (K : PySem.W.Frag) (cl : Nat → Addr) : TS := (tSeq (tAsg (tC (.str "abcdefghijklmnopqrstuvwxyz")) (gName 1)) (tSeq (tAsg (tOp qDiv (tVar 0) (tC (.int 8))) (gName 2)) (tSeq (tAsg (tC (.str "")) (gName 3)) (tSeq (tFor (iRng1 (tCons (tOp qAdd (tC (.int 1)) (tOp qMod (tVar 0) (tC (.int 8)))) tNil)) (gName 4) (tSeq (tAsg (tOp qAddS (tVar 3) (tOp rIxS (tVar 1) (tOp qMod (tVar 2) (tC (.int 26))))) (gName 3)) (tAsg (tOp qDiv (tVar 2) (tC (.int 26))) (gName 2)))) (tRet (tVar 3))))))
def t_law_pool (K : PySem.W.Frag) (cl : Nat → Addr) : TS := (tSeq (tAsg (tCall (sp_law_mix K cl) [] E0 (tCons (tVar 0) (tCons (tC (.int 2147483587)) tNil))) (gName 1)) (tSeq (tAsg (tC (.str "abcdefghijklmnopqrstuvwxyz")) (gName 2)) (tSeq (tAsg (tCall (sp_law_name K cl) [] E0 (tCons (tVar 1) tNil)) (gName 3)) (tSeq (tAsg (tOp qDiv (tVar 1) (tOp qMulW (tC (.int 8)) (tOp qPow (tC (.int 26)) (tC (.int 8))))) (gName 1)) (tSeq (tAsg (tOp qMod (tVar 1) (tCB rLenZ (tCons (tVar 3) tNil))) (gName 4)) (tSeq (tAsg (tOp qAdd (tOp qAdd (tBM K "str" rIndexS (tVar 2) (tCons (tOp rIxS (tVar 3) (tVar 4)) tNil)) (tC (.int 1))) (tOp qMod (tOp qDiv (tVar 1) (tC (.int 8))) (tC (.int 25)))) (gName 5)) (tSeq (tAsg (tOp qAddS (tOp qAddS (tSl rSlS (tVar 3) tNoPart (tPart (tVar 4))) (tOp rIxS (tVar 2) (tOp qMod (tVar 5) (tC (.int 26))))) (tSl rSlS (tVar 3) (tPart (tOp qAdd (tVar 4) (tC (.int 1)))) tNoPart)) (gName 6)) (tSeq (tAsg (tOp qDiv (tVar 1) (tC (.int 200))) (gName 1)) (tSeq (tAsg (tOp qAdd (tOp qMod (tOp qPow (tOp qAdd (tOp qMulW (tOp qMod (tVar 1) (tOp qPow (tC (.int 10)) (tC (.int 30)))) (tC (.int 48271))) (tC (.int 11))) (tC (.int 4))) (tOp qSub (tOp qPow (tC (.int 10)) (tC (.int 30))) (tC (.int 3)))) (tC (.int 1))) (gName 7)) (tSeq (tIfS (tTest (tOp rEq (tOp qMod (tVar 1) (tC (.int 2))) (tC (.int 1)))) (tAsg (tOp qAdd (tOp qMod (tOp qDiv (tVar 1) (tC (.int 2))) (tOp qSub (tOp qPow (tC (.int 10)) (tC (.int 30))) (tC (.int 3)))) (tC (.int 1))) (gName 7)) tNext) (tRet (tLst (tCons (tOp qMod (tOp qDiv (tVar 1) (tC (.int 64))) (tC (.int 5))) (tCons (tVar 7) (tCons (tVar 3) (tCons (tOp qSub (tC (.int 0)) (tVar 7)) (tCons (tVar 6) (tCons (tOp qAdd (tOp qMod (tOp qDiv (tVar 1) (tC (.int 320))) (tC (.int 5))) (tC (.int 7))) (tCons (tOp qAdd (tVar 7) (tC (.int 1))) tNil)))))))))))))))))))
def t_law_tables (K : PySem.W.Frag) (cl : Nat → Addr) : TS := (tSeq (tAsg (tCall (sp_law_mix K cl) [] E0 (tCons (tVar 0) (tCons (tC (.int 2147483629)) tNil))) (gName 2)) (tSeq (tAsg (tOp qAdd (tC (.int 1)) (tOp qMod (tVar 2) (tVar 1))) (gName 3)) (tSeq (tAsg (tOp qDiv (tVar 2) (tVar 1)) (gName 2)) (tSeq (tAsg (tLst tNil) (gName 4)) (tSeq (tFor (iRng1 (tCons (tVar 3) tNil)) (gName 5) (tSeq (tAsg (tOp qAdd (tC (.int 1)) (tOp qMod (tVar 2) (tC (.int 4)))) (gName 6)) (tSeq (tDrop (tBM K "list" rAppend (tVar 4) (tCons (tTup (tCons (tVar 6) (tCons (tOp qMod (tOp qDiv (tVar 2) (tC (.int 4))) (tOp qAdd (tVar 6) (tC (.int 1)))) tNil))) tNil))) (tAsg (tOp qDiv (tVar 2) (tC (.int 20))) (gName 2))))) (tRet (tCB (rTuple K) (tCons (tVar 4) tNil))))))))
def t_law_row (K : PySem.W.Frag) (cl : Nat → Addr) : TS := (tSeq (tAsg (tCall (sp_law_mix K cl) [] E0 (tCons (tVar 0) (tCons (tC (.int 2147483563)) tNil))) (gName 4)) (tSeq (tAsg (tOp qMod (tVar 4) (tCB (rLen K) (tCons (tVar 1) tNil))) (gName 5)) (tSeq (tAsg (tOp qDiv (tVar 4) (tCB (rLen K) (tCons (tVar 1) tNil))) (gName 4)) (tSeq (tAsg (tLst tNil) (gName 6)) (tSeq (tFor (iRng1 (tCons (tOp (rIxT K) (tOp (rIxT K) (tVar 1) (tVar 5)) (tC (.int 0))) tNil)) (gName 7) (tSeq (tDrop (tBM K "list" rAppend (tVar 6) (tCons (tOp (rIxL K) (tVar 2) (tOp qMod (tVar 4) (tVar 3))) tNil))) (tAsg (tOp qDiv (tVar 4) (tVar 3)) (gName 4)))) (tRet (tTup (tCons (tVar 5) (tCons (tCB (rTuple K) (tCons (tVar 6) tNil)) tNil)))))))))
def t_law_rows (K : PySem.W.Frag) (cl : Nat → Addr) : TS := (tSeq (tAsg (tLst tNil) (gName 4)) (tSeq (tFor (iList K (tVar 0)) (gName 5) (tSeq (tAsg (tCall (sp_law_row K cl) [] E0 (tCons (tVar 5) (tCons (tVar 1) (tCons (tVar 2) (tCons (tVar 3) tNil))))) (gName 6)) (tIfS (tTest (tOp (rNotInD K) (tVar 6) (tVar 4))) (tDrop (tBM K "list" rAppend (tVar 4) (tCons (tVar 6) tNil))) tNext))) (tRet (tCB (rTuple K) (tCons (tVar 4) tNil)))))
def t_law_take (K : PySem.W.Frag) (cl : Nat → Addr) : TS := (tSeq (tAsg (tOp qMod (tOp (rIxL K) (tVar 0) (tC (.int 0))) (tVar 1)) (gName 2)) (tSeq (tAsg (tOp qDiv (tOp (rIxL K) (tVar 0) (tC (.int 0))) (tVar 1)) (gSub (tVar 0) (tC (.int 0)) rSetL)) (tRet (tVar 2))))
def t_law_side (K : PySem.W.Frag) (cl : Nat → Addr) : TS := (tSeq (tIfS (tTest (tOp rEq (tCall (sp_law_take K cl) [] E0 (tCons (tVar 0) (tCons (tC (.int 4)) tNil))) (tC (.int 0)))) (tRet (tTup (tCons (tC (.str "is")) (tCons (tOp (rIxL K) (tVar 3) (tCall (sp_law_take K cl) [] E0 (tCons (tVar 0) (tCons (tC (.int 7)) tNil)))) tNil)))) tNext) (tSeq (tAsg (tCall (sp_law_take K cl) [] E0 (tCons (tVar 0) (tCons (tCB (rLen K) (tCons (tVar 1) tNil)) tNil))) (gName 4)) (tRet (tTup (tCons (tC (.str "cell")) (tCons (tVar 4) (tCons (tCall (sp_law_take K cl) [] E0 (tCons (tVar 0) (tCons (tOp (rIxT K) (tOp (rIxT K) (tVar 2) (tOp (rIxT K) (tVar 1) (tVar 4))) (tC (.int 0))) tNil))) tNil)))))))
def t_law_tests (K : PySem.W.Frag) (cl : Nat → Addr) : TS := (tSeq (tAsg (tLst tNil) (gName 4)) (tSeq (tFor (iRng1 (tCons (tOp (rIxL K) (tLst (tCons (tC (.int 1)) (tCons (tC (.int 1)) (tCons (tC (.int 2)) (tCons (tC (.int 1)) (tCons (tC (.int 2)) (tCons (tC (.int 3)) tNil))))))) (tCall (sp_law_take K cl) [] E0 (tCons (tVar 0) (tCons (tC (.int 6)) tNil)))) tNil)) (gName 5) (tSeq (tAsg (tOp (rIxL K) (tLst (tCons (tC (.str "same")) (tCons (tC (.str "unlike")) (tCons (tC (.str "less")) tNil)))) (tCall (sp_law_take K cl) [] E0 (tCons (tVar 0) (tCons (tC (.int 3)) tNil)))) (gName 6)) (tSeq (tAsg (tCall (sp_law_side K cl) [] E0 (tCons (tVar 0) (tCons (tVar 1) (tCons (tVar 2) (tCons (tVar 3) tNil))))) (gName 7)) (tDrop (tBM K "list" rAppend (tVar 4) (tCons (tTup (tCons (tVar 7) (tCons (tVar 6) (tCons (tCall (sp_law_side K cl) [] E0 (tCons (tVar 0) (tCons (tVar 1) (tCons (tVar 2) (tCons (tVar 3) tNil))))) tNil)))) tNil)))))) (tRet (tCB (rTuple K) (tCons (tVar 4) tNil)))))
def t_law_rule (K : PySem.W.Frag) (cl : Nat → Addr) : TS := (tSeq (tAsg (tLst (tCons (tCall (sp_law_mix K cl) [] E0 (tCons (tVar 0) (tCons (tC (.int 2147483543)) tNil))) tNil)) (gName 3)) (tSeq (tAsg (tCall (sp_law_take K cl) [] E0 (tCons (tVar 3) (tCons (tC (.int 4)) tNil))) (gName 4)) (tSeq (tAsg (tCall (sp_law_take K cl) [] E0 (tCons (tVar 3) (tCons (tCB (rLen K) (tCons (tVar 1) tNil)) tNil))) (gName 5)) (tSeq (tAsg (tCall (sp_law_take K cl) [] E0 (tCons (tVar 3) (tCons (tCB (rLen K) (tCons (tVar 1) tNil)) tNil))) (gName 6)) (tSeq (tIfS (tTest (tOp rEq (tVar 4) (tC (.int 0)))) (tRet (tTup (tCons (tC (.str "never")) (tCons (tVar 5) (tCons (tCall (sp_law_tests K cl) [] E0 (tCons (tVar 3) (tCons (tTup (tCons (tVar 5) tNil)) (tCons (tVar 1) (tCons (tVar 2) tNil))))) tNil))))) tNext) (tSeq (tIfS (tTest (tOp qLt (tVar 4) (tC (.int 3)))) (tRet (tTup (tCons (tC (.str "apart")) (tCons (tVar 5) (tCons (tVar 6) (tCons (tCall (sp_law_tests K cl) [] E0 (tCons (tVar 3) (tCons (tTup (tCons (tVar 5) (tCons (tVar 6) tNil))) (tCons (tVar 1) (tCons (tVar 2) tNil))))) tNil)))))) tNext) (tSeq (tAsg (tOp (rIxL K) (tLst (tCons (tC (.int 1)) (tCons (tC (.int 2)) (tCons (tC (.int 1)) (tCons (tC (.int 3)) (tCons (tC (.int 1)) tNil)))))) (tCall (sp_law_take K cl) [] E0 (tCons (tVar 3) (tCons (tC (.int 5)) tNil)))) (gName 7)) (tSeq (tAsg (tCB (rTuple K) (tCons (tLc (iRng1 (tCons (tVar 7) tNil)) (gName 9) tYes (tCall (sp_law_take K cl) [] E0 (tCons (tVar 3) (tCons (tOp (rIxT K) (tOp (rIxT K) (tVar 1) (tVar 5)) (tC (.int 0))) tNil))) [9]) tNil)) (gName 8)) (tRet (tTup (tCons (tC (.str "tie")) (tCons (tVar 5) (tCons (tVar 8) (tCons (tVar 6) (tCons (tCB (rTuple K) (tCons (tLc (iRng1 (tCons (tVar 7) tNil)) (gName 9) tYes (tCall (sp_law_take K cl) [] E0 (tCons (tVar 3) (tCons (tOp (rIxT K) (tOp (rIxT K) (tVar 1) (tVar 6)) (tC (.int 0))) tNil))) [9]) tNil)) tNil)))))))))))))))
def t_law_idle (K : PySem.W.Frag) (cl : Nat → Addr) : TS := (tSeq (tAsg (tTup (tCons (tC (.str "is")) (tCons (tOp qMod (tVar 0) (tC (.int 7))) tNil))) (gName 2)) (tRet (tTup (tCons (tC (.str "never")) (tCons (tOp qMod (tOp qDiv (tVar 0) (tC (.int 7))) (tCB (rLen K) (tCons (tVar 1) tNil))) (tCons (tTup (tCons (tTup (tCons (tVar 2) (tCons (tC (.str "same")) (tCons (tTup (tCons (tC (.str "is")) (tCons (tOp qAdd (tOp qAdd (tOp qMod (tVar 0) (tC (.int 7))) (tC (.int 1))) (tOp qMod (tOp qDiv (tVar 0) (tC (.int 28))) (tC (.int 5)))) tNil))) tNil)))) tNil)) tNil))))))
def t_law_whole (K : PySem.W.Frag) (cl : Nat → Addr) : TS := (tRet (tAndV (tCB (rIsi K) (tCons (tVar 0) (tCons (tC (.ty "int")) tNil))) (tNotV (tCB (rIsi K) (tCons (tVar 0) (tCons (tC (.ty "bool")) tNil))))))
def t_law_turned (K : PySem.W.Frag) (cl : Nat → Addr) : TS := (tSeq (tAsg (tLst tNil) (gName 1)) (tSeq (tFor (iTup K (tVar 0)) (gTup K 2 (gCons (gName 2) (gCons (gName 3) gNil))) (tDrop (tBM K "list" rAppend (tVar 1) (tCons (tTup (tCons (tVar 2) (tCons (tCB (rTuple K) (tCons (tLc (iTup K (tVar 3)) (gName 4) tYes (tIf (tB (tCB (rIsi K) (tCons (tVar 4) (tCons (tC (.ty "str")) tNil)))) (tVar 4) (tOp qSub (tC (.int 0)) (tVar 4))) [4]) tNil)) tNil))) tNil)))) (tRet (tCB (rTuple K) (tCons (tVar 1) tNil)))))
def t_law_total (K : PySem.W.Frag) (cl : Nat → Addr) : TS := (tSeq (tAsg (tC (.int 0)) (gName 4)) (tSeq (tFor (iTup K (tVar 1)) (gName 5) (tIfS (tAnd (tTest (tOp rEq (tOp (rIxT K) (tOp (rIxT K) (tVar 0) (tVar 5)) (tC (.int 0))) (tVar 2))) (tNot (tB (tCB (rIsi K) (tCons (tOp (rIxT K) (tOp (rIxT K) (tOp (rIxT K) (tVar 0) (tVar 5)) (tC (.int 1))) (tVar 3)) (tCons (tC (.ty "str")) tNil)))))) (tAsg (tOp qAdd (tVar 4) (tOp (rIxT K) (tOp (rIxT K) (tOp (rIxT K) (tVar 0) (tVar 5)) (tC (.int 1))) (tVar 3))) (gName 4)) tNext)) (tRet (tVar 4))))
def t_law_told_right (K : PySem.W.Frag) (cl : Nat → Addr) : TS := (tSeq (tIfS (tOr (tNot (tB (tCB (rIsi K) (tCons (tVar 1) (tCons (tC (.ty "tuple")) tNil))))) (tOr (tTest (tOp rNe (tCB (rLen K) (tCons (tVar 1) tNil)) (tC (.int 4)))) (tOr (tNot (tB (tCall (sp_law_whole K cl) [] E0 (tCons (tOp (rIxT K) (tVar 1) (tC (.int 0))) tNil)))) (tNot (tB (tCall (sp_law_whole K cl) [] E0 (tCons (tOp (rIxT K) (tVar 1) (tC (.int 2))) tNil))))))) (tRet (tC (.bl false))) tNext) (tSeq (tIfS (tOr (tTest (tOp rNe (tOp (rIxT K) (tVar 1) (tC (.int 0))) (tCB (rMin K) (tCons (tVar 2) tNil)))) (tTest (tOp rNe (tOp (rIxT K) (tVar 1) (tC (.int 2))) (tCB (rMax K) (tCons (tVar 2) tNil))))) (tRet (tC (.bl false))) tNext) (tSeq (tFor (iTup K (tTup (tCons (tC (.int 1)) (tCons (tC (.int 3)) tNil)))) (gName 5) (tSeq (tIfS (tOr (tTest (tOp rNotB (tCall (sp_is_mended K cl) [] E0 (tCons (tVar 0) (tCons (tOp (rIxT K) (tVar 1) (tVar 5)) tNil))) (tC (.bl true)))) (tTest (tOp rNe (tCall (sp_law_total K cl) [] E0 (tCons (tOp (rIxT K) (tVar 0) (tC (.int 2))) (tCons (tOp (rIxT K) (tVar 1) (tVar 5)) (tCons (tVar 3) (tCons (tVar 4) tNil))))) (tOp (rIxT K) (tVar 1) (tOp qSub (tVar 5) (tC (.int 1))))))) (tRet (tC (.bl false))) tNext) (tIfS (tTest (tOp rNe (tCall (sp_sum_in K cl) [] E0 (tCons (tVar 0) (tCons (tOp (rIxT K) (tVar 1) (tVar 5)) (tCons (tVar 3) (tCons (tVar 4) tNil))))) (tOp (rIxT K) (tVar 1) (tOp qSub (tVar 5) (tC (.int 1)))))) (tRet (tC (.bl false))) tNext))) (tRet (tC (.bl true))))))
def t_law_column_right (K : PySem.W.Frag) (cl : Nat → Addr) : TS := (tSeq (tAsg (tVar 0) (gTup K 3 (gCons (gName 5) (gCons (gName 6) (gCons (gName 7) gNil))))) (tSeq (tAsg (tCall (sp_sums K cl) [] E0 (tCons (tVar 0) (tCons (tVar 2) (tCons (tVar 3) tNil)))) (gName 8)) (tSeq (tAsg (tLc (iList K (tVar 1)) (gName 10) tYes (tCall (sp_law_total K cl) [] E0 (tCons (tVar 7) (tCons (tVar 10) (tCons (tVar 2) (tCons (tVar 3) tNil))))) [10]) (gName 9)) (tSeq (tIfS (tNot (tB (tCall (sp_law_told_right K cl) [] E0 (tCons (tVar 0) (tCons (tVar 8) (tCons (tVar 9) (tCons (tVar 2) (tCons (tVar 3) tNil)))))))) (tRet (tC (.bl false))) tNext) (tSeq (tAsg (tTupRg (tRg1 (tCB (rLen K) (tCons (tVar 7) tNil)))) (gName 11)) (tSeq (tAsg (tCall (sp_law_total K cl) [] E0 (tCons (tVar 7) (tCons (tVar 11) (tCons (tVar 2) (tCons (tVar 3) tNil))))) (gName 12)) (tSeq (tIfS (tAnd (tB (tCall (sp_good K cl) [] E0 (tCons (tVar 0) (tCons (tVar 11) tNil)))) (tOr (tTest (tOp rNe (tOp (rIxT K) (tVar 8) (tC (.int 0))) (tVar 12))) (tTest (tOp rNe (tOp (rIxT K) (tVar 8) (tC (.int 2))) (tVar 12))))) (tRet (tC (.bl false))) tNext) (tSeq (tIfS (tB (tCall (sp_is_plain K cl) [] E0 (tCons (tVar 0) tNil))) (tSeq (tAsg (tCall (sp_sums K cl) [] E0 (tCons (tCall (sp_book_of K cl) [] E0 (tCons (tVar 5) (tCons (tTup (tCons (tVar 4) tNil)) (tCons (tVar 7) tNil)))) (tCons (tVar 2) (tCons (tVar 3) tNil)))) (gName 13)) (tSeq (tAsg (tCall (sp_sums K cl) [] E0 (tCons (tCall (sp_book_of K cl) [] E0 (tCons (tVar 5) (tCons (tTup tNil) (tCons (tCall (sp_law_turned K cl) [] E0 (tCons (tVar 7) tNil)) tNil)))) (tCons (tVar 2) (tCons (tVar 3) tNil)))) (gName 14)) (tSeq (tAsg (tTup (tCons (tOp (rIxT K) (tVar 8) (tC (.int 0))) (tCons (tOp (rIxT K) (tVar 8) (tC (.int 2))) tNil))) (gName 15)) (tRet (tAndV (tOp (rEqD K) (tTup (tCons (tOp (rIxT K) (tVar 13) (tC (.int 0))) (tCons (tOp (rIxT K) (tVar 13) (tC (.int 2))) tNil))) (tVar 15)) (tOp (rEqD K) (tTup (tCons (tOp qSub (tC (.int 0)) (tOp (rIxT K) (tVar 14) (tC (.int 2)))) (tCons (tOp qSub (tC (.int 0)) (tOp (rIxT K) (tVar 14) (tC (.int 0)))) tNil))) (tVar 15))))))) tNext) (tRet (tC (.bl true)))))))))))
def t_law (K : PySem.W.Frag) (cl : Nat → Addr) : TS := (tSeq (tAsg (tCall (sp_law_pool K cl) [] E0 (tCons (tCall (sp_law_cell_at K cl) [] E0 (tCons (tVar 0) (tCons (tC (.int 0)) tNil))) tNil)) (gName 1)) (tSeq (tAsg (tCall (sp_law_cell_at K cl) [] E0 (tCons (tVar 0) (tCons (tC (.int 2)) tNil))) (gName 2)) (tSeq (tAsg (tCB (rTuple K) (tCons (tLc (iTup K (tCall (sp_law_tables K cl) [] E0 (tCons (tCall (sp_law_cell_at K cl) [] E0 (tCons (tVar 0) (tCons (tC (.int 1)) tNil))) (tCons (tC (.int 3)) tNil)))) (gTup K 2 (gCons (gName 4) (gCons (gName 5) gNil))) tYes (tTup (tCons (tCB rMin2 (tCons (tVar 4) (tCons (tC (.int 3)) tNil))) (tCons (tCB rMin2 (tCons (tVar 5) (tCons (tC (.int 3)) tNil))) tNil))) [4, 5]) tNil)) (gName 3)) (tSeq (tAsg (tOp qMulW (tOp qMod (tVar 2) (tC (.int 2))) (tOp qAdd (tC (.int 1)) (tOp qMod (tOp qDiv (tVar 2) (tC (.int 2))) (tC (.int 3))))) (gName 6)) (tSeq (tAsg (tCB (rTuple K) (tCons (tLc (iRng1 (tCons (tVar 6) tNil)) (gName 8) tYes (tCall (sp_law_rule K cl) [] E0 (tCons (tCall (sp_law_cell_at K cl) [] E0 (tCons (tVar 0) (tCons (tOp qAdd (tC (.int 3)) (tVar 8)) tNil))) (tCons (tVar 3) (tCons (tVar 1) tNil)))) [8]) tNil)) (gName 7)) (tSeq (tAsg (tSl (rSlA K) (tCall (sp_law_rows K cl) [] E0 (tCons (tSl (rSlL K) (tVar 0) (tPart (tC (.int 6))) (tPart (tC (.int 63)))) (tCons (tVar 3) (tCons (tVar 1) (tCons (tOp qAdd (tC (.int 2)) (tOp qMod (tOp qDiv (tVar 2) (tC (.int 6))) (tC (.int 6)))) tNil))))) tNoPart (tPart (tC (.int 10)))) (gName 9)) (tSeq (tAsg (tCall (sp_book_of K cl) [] E0 (tCons (tVar 3) (tCons (tVar 7) (tCons (tVar 9) tNil)))) (gName 10)) (tSeq (tAsg (tLc (iRng1 (tCons (tCall (sp_many_mended K cl) [] E0 (tCons (tVar 10) tNil)) tNil)) (gName 12) tYes (tCall (sp_mended_at K cl) [] E0 (tCons (tVar 10) (tCons (tVar 12) tNil))) [12]) (gName 11)) (tSeq (tFor (iRng1 (tCons (tCB (rLen K) (tCons (tVar 3) tNil)) tNil)) (gName 13) (tFor (iRng1 (tCons (tOp (rIxT K) (tOp (rIxT K) (tVar 3) (tVar 13)) (tC (.int 0))) tNil)) (gName 14) (tIfS (tNot (tB (tCall (sp_law_column_right K cl) [] E0 (tCons (tVar 10) (tCons (tVar 11) (tCons (tVar 13) (tCons (tVar 14) (tCons (tCall (sp_law_idle K cl) [] E0 (tCons (tOp qDiv (tVar 2) (tC (.int 36))) (tCons (tVar 3) tNil))) tNil)))))))) (tRet (tC (.bl false))) tNext))) (tRet (tC (.bl true))))))))))))
end Md
namespace Md
open PySem PySem.Spec PyProof.Rows L2
theorem bt_len : bootBuiltins "len" = some (.builtin "len") := by decide +kernel
theorem bt_isinstance : bootBuiltins "isinstance" = some (.builtin "isinstance") := by decide +kernel
theorem bt_all : bootBuiltins "all" = some (.builtin "all") := by decide +kernel
theorem bt_any : bootBuiltins "any" = some (.builtin "any") := by decide +kernel
theorem bt_sum : bootBuiltins "sum" = some (.builtin "sum") := by decide +kernel
theorem bt_min : bootBuiltins "min" = some (.builtin "min") := by decide +kernel
theorem bt_max : bootBuiltins "max" = some (.builtin "max") := by decide +kernel
theorem bt_sorted : bootBuiltins "sorted" = some (.builtin "sorted") := by decide +kernel
theorem bt_int : bootBuiltins "int" = some (.type "int") := by decide +kernel
theorem bt_str : bootBuiltins "str" = some (.type "str") := by decide +kernel
theorem bt_bool : bootBuiltins "bool" = some (.type "bool") := by decide +kernel
theorem bt_tuple : bootBuiltins "tuple" = some (.type "tuple") := by decide +kernel
theorem bt_list : bootBuiltins "list" = some (.type "list") := by decide +kernel
/-- the classes' objects -/
def clK (K : PySem.W.Frag) : Nat → Addr
  | 0 => He.ga K "Never"
  | 1 => He.ga K "Apart"
  | _ => He.ga K "Tie"
structure Tx (P : Program) (w : World) (K : PySem.W.Frag) (mg : Str → Option Value) (base : Heap) : Prop where
  ex : ∃ h : Heap, K.In h ∧ h.Ns mainGlobals mg
  c : Says K
section
variable {P : Program} {w : World} {K : PySem.W.Frag} {mg : Str → Option Value} {base : Heap}
theorem Tx.s (T : Tx P w K mg base) : He.SaysD fa fn K := congrArg Prod.fst T.c
theorem Tx.wordsB (T : Tx P w K mg base) : wordsB K = true := congrArg Prod.snd T.c
theorem Tx.g (T : Tx P w K mg base) (i : Nat) {x : Str} (h : fa[i]? = some (.glo x)) : mg x = some (.ref (He.ga K x)) := by
  obtain ⟨h', X, G⟩ := T.ex
  exact He.glo_ok X G (T.s.fact i h)
theorem Tx.f (T : Tx P w K mg base) (i : Nat) {x : Str} (h : fa[i]? = some (.free x)) : mg x = none := by
  obtain ⟨h', X, G⟩ := T.ex
  exact He.free_ok X G (T.s.fact i h)
theorem Tx.i (T : Tx P w K mg base) (i : Nat) {x : Str} {n : Int} (h : fa[i]? = some (.int x n)) : ∃ t, mg x = some (.int n t) := by
  obtain ⟨h', X, G⟩ := T.ex
  exact He.int_ok X G (T.s.fact i h)
theorem Tx.z (T : Tx P w K mg base) (i : Nat) {x y : Str} (h : fa[i]? = some (.str x y)) : ∃ t, mg x = some (.str y t) := by
  obtain ⟨h', X, G⟩ := T.ex
  exact He.str_ok X G (T.s.fact i h)
theorem Tx.g_is_plain (T : Tx P w K mg base) : mg "is_plain" = some (.ref (He.ga K "is_plain")) := T.g 0 rfl
theorem Tx.g_check_plain (T : Tx P w K mg base) : mg "check_plain" = some (.ref (He.ga K "check_plain")) := T.g 1 rfl
theorem Tx.g_key_of (T : Tx P w K mg base) : mg "key_of" = some (.ref (He.ga K "key_of")) := T.g 2 rfl
theorem Tx.g_blocks (T : Tx P w K mg base) : mg "blocks" = some (.ref (He.ga K "blocks")) := T.g 3 rfl
theorem Tx.g_side_value (T : Tx P w K mg base) : mg "side_value" = some (.ref (He.ga K "side_value")) := T.g 4 rfl
theorem Tx.g_test_holds (T : Tx P w K mg base) : mg "test_holds" = some (.ref (He.ga K "test_holds")) := T.g 5 rfl
theorem Tx.g_all_hold (T : Tx P w K mg base) : mg "all_hold" = some (.ref (He.ga K "all_hold")) := T.g 6 rfl
theorem Tx.g_Rule (T : Tx P w K mg base) : mg "Rule" = some (.ref (He.ga K "Rule")) := T.g 7 rfl
theorem Tx.g_Never (T : Tx P w K mg base) : mg "Never" = some (.ref (He.ga K "Never")) := T.g 8 rfl
theorem Tx.g_Apart (T : Tx P w K mg base) : mg "Apart" = some (.ref (He.ga K "Apart")) := T.g 9 rfl
theorem Tx.g_Tie (T : Tx P w K mg base) : mg "Tie" = some (.ref (He.ga K "Tie")) := T.g 10 rfl
theorem Tx.g_rule_of (T : Tx P w K mg base) : mg "rule_of" = some (.ref (He.ga K "rule_of")) := T.g 11 rfl
theorem Tx.g_rules_of (T : Tx P w K mg base) : mg "rules_of" = some (.ref (He.ga K "rules_of")) := T.g 12 rfl
theorem Tx.g_key_at (T : Tx P w K mg base) : mg "key_at" = some (.ref (He.ga K "key_at")) := T.g 13 rfl
theorem Tx.g_alone_breaks (T : Tx P w K mg base) : mg "alone_breaks" = some (.ref (He.ga K "alone_breaks")) := T.g 14 rfl
theorem Tx.g_pair_breaks (T : Tx P w K mg base) : mg "pair_breaks" = some (.ref (He.ga K "pair_breaks")) := T.g 15 rfl
theorem Tx.g_breaks (T : Tx P w K mg base) : mg "breaks" = some (.ref (He.ga K "breaks")) := T.g 16 rfl
theorem Tx.g_good (T : Tx P w K mg base) : mg "good" = some (.ref (He.ga K "good")) := T.g 17 rfl
theorem Tx.g_held (T : Tx P w K mg base) : mg "held" = some (.ref (He.ga K "held")) := T.g 18 rfl
theorem Tx.g_clashes (T : Tx P w K mg base) : mg "clashes" = some (.ref (He.ga K "clashes")) := T.g 19 rfl
theorem Tx.g_rows_that_clash (T : Tx P w K mg base) : mg "rows_that_clash" = some (.ref (He.ga K "rows_that_clash")) := T.g 20 rfl
theorem Tx.g_is_near (T : Tx P w K mg base) : mg "is_near" = some (.ref (He.ga K "is_near")) := T.g 21 rfl
theorem Tx.g_is_greatest (T : Tx P w K mg base) : mg "is_greatest" = some (.ref (He.ga K "is_greatest")) := T.g 22 rfl
theorem Tx.g_free_sets (T : Tx P w K mg base) : mg "free_sets" = some (.ref (He.ga K "free_sets")) := T.g 23 rfl
theorem Tx.g_as_bits (T : Tx P w K mg base) : mg "as_bits" = some (.ref (He.ga K "as_bits")) := T.g 24 rfl
theorem Tx.g_greatest_ones (T : Tx P w K mg base) : mg "greatest_ones" = some (.ref (He.ga K "greatest_ones")) := T.g 25 rfl
theorem Tx.g_mended (T : Tx P w K mg base) : mg "mended" = some (.ref (He.ga K "mended")) := T.g 26 rfl
theorem Tx.g_many_mended (T : Tx P w K mg base) : mg "many_mended" = some (.ref (He.ga K "many_mended")) := T.g 27 rfl
theorem Tx.g_mended_at (T : Tx P w K mg base) : mg "mended_at" = some (.ref (He.ga K "mended_at")) := T.g 28 rfl
theorem Tx.g_is_mended (T : Tx P w K mg base) : mg "is_mended" = some (.ref (He.ga K "is_mended")) := T.g 29 rfl
theorem Tx.g_number_of (T : Tx P w K mg base) : mg "number_of" = some (.ref (He.ga K "number_of")) := T.g 30 rfl
theorem Tx.g_worth (T : Tx P w K mg base) : mg "worth" = some (.ref (He.ga K "worth")) := T.g 31 rfl
theorem Tx.g_check_column (T : Tx P w K mg base) : mg "check_column" = some (.ref (He.ga K "check_column")) := T.g 32 rfl
theorem Tx.g_sum_in (T : Tx P w K mg base) : mg "sum_in" = some (.ref (He.ga K "sum_in")) := T.g 33 rfl
theorem Tx.g_best_of (T : Tx P w K mg base) : mg "best_of" = some (.ref (He.ga K "best_of")) := T.g 34 rfl
theorem Tx.g_sums_by_blocks (T : Tx P w K mg base) : mg "sums_by_blocks" = some (.ref (He.ga K "sums_by_blocks")) := T.g 35 rfl
theorem Tx.g_sums_through (T : Tx P w K mg base) : mg "sums_through" = some (.ref (He.ga K "sums_through")) := T.g 36 rfl
theorem Tx.g_sums (T : Tx P w K mg base) : mg "sums" = some (.ref (He.ga K "sums")) := T.g 37 rfl
theorem Tx.g_is_name (T : Tx P w K mg base) : mg "is_name" = some (.ref (He.ga K "is_name")) := T.g 38 rfl
theorem Tx.g_is_value (T : Tx P w K mg base) : mg "is_value" = some (.ref (He.ga K "is_value")) := T.g 39 rfl
theorem Tx.g_is_whole (T : Tx P w K mg base) : mg "is_whole" = some (.ref (He.ga K "is_whole")) := T.g 40 rfl
theorem Tx.g_is_table (T : Tx P w K mg base) : mg "is_table" = some (.ref (He.ga K "is_table")) := T.g 41 rfl
theorem Tx.g_is_in (T : Tx P w K mg base) : mg "is_in" = some (.ref (He.ga K "is_in")) := T.g 42 rfl
theorem Tx.g_is_column (T : Tx P w K mg base) : mg "is_column" = some (.ref (He.ga K "is_column")) := T.g 43 rfl
theorem Tx.g_is_side (T : Tx P w K mg base) : mg "is_side" = some (.ref (He.ga K "is_side")) := T.g 44 rfl
theorem Tx.g_are_tests (T : Tx P w K mg base) : mg "are_tests" = some (.ref (He.ga K "are_tests")) := T.g 45 rfl
theorem Tx.g_are_columns (T : Tx P w K mg base) : mg "are_columns" = some (.ref (He.ga K "are_columns")) := T.g 46 rfl
theorem Tx.g_is_tie (T : Tx P w K mg base) : mg "is_tie" = some (.ref (He.ga K "is_tie")) := T.g 47 rfl
theorem Tx.g_is_rule (T : Tx P w K mg base) : mg "is_rule" = some (.ref (He.ga K "is_rule")) := T.g 48 rfl
theorem Tx.g_is_row (T : Tx P w K mg base) : mg "is_row" = some (.ref (He.ga K "is_row")) := T.g 49 rfl
theorem Tx.g_check_rows (T : Tx P w K mg base) : mg "check_rows" = some (.ref (He.ga K "check_rows")) := T.g 50 rfl
theorem Tx.g_book_of (T : Tx P w K mg base) : mg "book_of" = some (.ref (He.ga K "book_of")) := T.g 51 rfl
theorem Tx.g_law_cell_at (T : Tx P w K mg base) : mg "_law_cell_at" = some (.ref (He.ga K "_law_cell_at")) := T.g 52 rfl
theorem Tx.g_law_mix (T : Tx P w K mg base) : mg "_law_mix" = some (.ref (He.ga K "_law_mix")) := T.g 53 rfl
theorem Tx.g_law_name (T : Tx P w K mg base) : mg "_law_name" = some (.ref (He.ga K "_law_name")) := T.g 54 rfl
theorem Tx.g_law_pool (T : Tx P w K mg base) : mg "_law_pool" = some (.ref (He.ga K "_law_pool")) := T.g 55 rfl
theorem Tx.g_law_tables (T : Tx P w K mg base) : mg "_law_tables" = some (.ref (He.ga K "_law_tables")) := T.g 56 rfl
theorem Tx.g_law_row (T : Tx P w K mg base) : mg "_law_row" = some (.ref (He.ga K "_law_row")) := T.g 57 rfl
theorem Tx.g_law_rows (T : Tx P w K mg base) : mg "_law_rows" = some (.ref (He.ga K "_law_rows")) := T.g 58 rfl
theorem Tx.g_law_take (T : Tx P w K mg base) : mg "_law_take" = some (.ref (He.ga K "_law_take")) := T.g 59 rfl
theorem Tx.g_law_side (T : Tx P w K mg base) : mg "_law_side" = some (.ref (He.ga K "_law_side")) := T.g 60 rfl
theorem Tx.g_law_tests (T : Tx P w K mg base) : mg "_law_tests" = some (.ref (He.ga K "_law_tests")) := T.g 61 rfl
theorem Tx.g_law_rule (T : Tx P w K mg base) : mg "_law_rule" = some (.ref (He.ga K "_law_rule")) := T.g 62 rfl
theorem Tx.g_law_idle (T : Tx P w K mg base) : mg "_law_idle" = some (.ref (He.ga K "_law_idle")) := T.g 63 rfl
theorem Tx.g_law_whole (T : Tx P w K mg base) : mg "_law_whole" = some (.ref (He.ga K "_law_whole")) := T.g 64 rfl
theorem Tx.g_law_turned (T : Tx P w K mg base) : mg "_law_turned" = some (.ref (He.ga K "_law_turned")) := T.g 65 rfl
theorem Tx.g_law_total (T : Tx P w K mg base) : mg "_law_total" = some (.ref (He.ga K "_law_total")) := T.g 66 rfl
theorem Tx.g_law_told_right (T : Tx P w K mg base) : mg "_law_told_right" = some (.ref (He.ga K "_law_told_right")) := T.g 67 rfl
theorem Tx.g_law_column_right (T : Tx P w K mg base) : mg "_law_column_right" = some (.ref (He.ga K "_law_column_right")) := T.g 68 rfl
theorem Tx.g_law (T : Tx P w K mg base) : mg "law" = some (.ref (He.ga K "law")) := T.g 69 rfl
theorem Tx.f_len (T : Tx P w K mg base) : mg "len" = none := T.f 70 rfl
theorem Tx.f_isinstance (T : Tx P w K mg base) : mg "isinstance" = none := T.f 71 rfl
theorem Tx.f_int (T : Tx P w K mg base) : mg "int" = none := T.f 72 rfl
theorem Tx.f_str (T : Tx P w K mg base) : mg "str" = none := T.f 73 rfl
theorem Tx.f_bool (T : Tx P w K mg base) : mg "bool" = none := T.f 74 rfl
theorem Tx.f_tuple (T : Tx P w K mg base) : mg "tuple" = none := T.f 75 rfl
theorem Tx.f_list (T : Tx P w K mg base) : mg "list" = none := T.f 76 rfl
theorem Tx.f_all (T : Tx P w K mg base) : mg "all" = none := T.f 77 rfl
theorem Tx.f_any (T : Tx P w K mg base) : mg "any" = none := T.f 78 rfl
theorem Tx.f_sum (T : Tx P w K mg base) : mg "sum" = none := T.f 79 rfl
theorem Tx.f_min (T : Tx P w K mg base) : mg "min" = none := T.f 80 rfl
theorem Tx.f_max (T : Tx P w K mg base) : mg "max" = none := T.f 81 rfl
theorem Tx.f_sorted (T : Tx P w K mg base) : mg "sorted" = none := T.f 82 rfl
theorem Tx.f_range (T : Tx P w K mg base) : mg "range" = none := T.f 83 rfl
theorem Tx.f_enumerate (T : Tx P w K mg base) : mg "enumerate" = none := T.f 84 rfl
theorem Tx.k_MOST_CLASHING (T : Tx P w K mg base) : ∃ t, mg "MOST_CLASHING" = some (.int 15 t) := T.i 85 rfl
theorem Tx.k_MOST_TABLES (T : Tx P w K mg base) : ∃ t, mg "MOST_TABLES" = some (.int 4 t) := T.i 86 rfl
theorem Tx.k_MOST_RULES (T : Tx P w K mg base) : ∃ t, mg "MOST_RULES" = some (.int 6 t) := T.i 87 rfl
theorem Tx.k_MOST_ROWS (T : Tx P w K mg base) : ∃ t, mg "MOST_ROWS" = some (.int 60 t) := T.i 88 rfl
theorem Tx.k_BEYOND (T : Tx P w K mg base) : ∃ t, mg "BEYOND" = some (.int 1000000000000000000000000000000 t) := T.i 89 rfl
theorem Tx.k_LETTERS (T : Tx P w K mg base) : ∃ t, mg "LETTERS" = some (.str "abcdefghijklmnopqrstuvwxyz" t) := T.z 90 rfl
theorem Tx.g_WORDS (T : Tx P w K mg base) : mg "WORDS" = some (.ref (He.ga K "WORDS")) := T.g 91 rfl
theorem Tx.cls_Never (T : Tx P w K mg base) : Cls K (He.ga K "Never") := He.cls_ok (T.s.fact 92 (f := .cls "Never") rfl)
theorem Tx.noat_Never (T : Tx P w K mg base) : NoAttr K (He.ga K "Never") "parts" := He.noat_ok (T.s.fact 93 (f := .noat "Never" "parts") rfl)
theorem Tx.mkr_Never (T : Tx P w K mg base) : Mk K (He.ga K "Never") (He.ma K (He.ga K "Never") "__init__") := He.mkr_ok (T.s.fact 94 (f := .mkr "Never") rfl)
theorem Tx.m_bars_Never (T : Tx P w K mg base) : Meth K (He.ga K "Never") "bars" (He.ma K (He.ga K "Never") "bars") := He.meth_ok (T.s.fact 95 (f := .meth "Never" "bars") rfl)
theorem Tx.m_parts_them_Never (T : Tx P w K mg base) : Meth K (He.ga K "Never") "parts_them" (He.ma K (He.ga K "Never") "parts_them") := He.meth_ok (T.s.fact 96 (f := .meth "Never" "parts_them") rfl)
theorem Tx.m_lacks_Never (T : Tx P w K mg base) : Meth K (He.ga K "Never") "lacks" (He.ma K (He.ga K "Never") "lacks") := He.meth_ok (T.s.fact 97 (f := .meth "Never" "lacks") rfl)
theorem Tx.cls_Apart (T : Tx P w K mg base) : Cls K (He.ga K "Apart") := He.cls_ok (T.s.fact 98 (f := .cls "Apart") rfl)
theorem Tx.noat_Apart (T : Tx P w K mg base) : NoAttr K (He.ga K "Apart") "parts" := He.noat_ok (T.s.fact 99 (f := .noat "Apart" "parts") rfl)
theorem Tx.mkr_Apart (T : Tx P w K mg base) : Mk K (He.ga K "Apart") (He.ma K (He.ga K "Apart") "__init__") := He.mkr_ok (T.s.fact 100 (f := .mkr "Apart") rfl)
theorem Tx.m_bars_Apart (T : Tx P w K mg base) : Meth K (He.ga K "Apart") "bars" (He.ma K (He.ga K "Apart") "bars") := He.meth_ok (T.s.fact 101 (f := .meth "Apart" "bars") rfl)
theorem Tx.m_parts_them_Apart (T : Tx P w K mg base) : Meth K (He.ga K "Apart") "parts_them" (He.ma K (He.ga K "Apart") "parts_them") := He.meth_ok (T.s.fact 102 (f := .meth "Apart" "parts_them") rfl)
theorem Tx.m_lacks_Apart (T : Tx P w K mg base) : Meth K (He.ga K "Apart") "lacks" (He.ma K (He.ga K "Apart") "lacks") := He.meth_ok (T.s.fact 103 (f := .meth "Apart" "lacks") rfl)
theorem Tx.cls_Tie (T : Tx P w K mg base) : Cls K (He.ga K "Tie") := He.cls_ok (T.s.fact 104 (f := .cls "Tie") rfl)
theorem Tx.noat_Tie (T : Tx P w K mg base) : NoAttr K (He.ga K "Tie") "parts" := He.noat_ok (T.s.fact 105 (f := .noat "Tie" "parts") rfl)
theorem Tx.mkr_Tie (T : Tx P w K mg base) : Mk K (He.ga K "Tie") (He.ma K (He.ga K "Tie") "__init__") := He.mkr_ok (T.s.fact 106 (f := .mkr "Tie") rfl)
theorem Tx.m_bars_Tie (T : Tx P w K mg base) : Meth K (He.ga K "Tie") "bars" (He.ma K (He.ga K "Tie") "bars") := He.meth_ok (T.s.fact 107 (f := .meth "Tie" "bars") rfl)
theorem Tx.m_parts_them_Tie (T : Tx P w K mg base) : Meth K (He.ga K "Tie") "parts_them" (He.ma K (He.ga K "Tie") "parts_them") := He.meth_ok (T.s.fact 108 (f := .meth "Tie" "parts_them") rfl)
theorem Tx.m_lacks_Tie (T : Tx P w K mg base) : Meth K (He.ga K "Tie") "lacks" (He.ma K (He.ga K "Tie") "lacks") := He.meth_ok (T.s.fact 109 (f := .meth "Tie" "lacks") rfl)
theorem Tx.m_one_way_Apart (T : Tx P w K mg base) : Meth K (He.ga K "Apart") "one_way" (He.ma K (He.ga K "Apart") "one_way") := He.meth_ok (T.s.fact 110 (f := .meth "Apart" "one_way") rfl)
theorem Tx.cls (T : Tx P w K mg base) : ∀ k : Nat, Cls K (clK K k)
  | 0 => T.cls_Never
  | 1 => T.cls_Apart
  | _ + 2 => T.cls_Tie
theorem Tx.noat (T : Tx P w K mg base) : ∀ k : Nat, NoAttr K (clK K k) "parts"
  | 0 => T.noat_Never
  | 1 => T.noat_Apart
  | _ + 2 => T.noat_Tie
theorem Tx.words (T : Tx P w K mg base) (H : Hp) : SqT K H (He.ga K "WORDS") (wordsOf.map V.str) := He.tupB_ok T.wordsB H
end
end Md
namespace Md
open PySem
/-! ### facts of the mirror -/
theorem leftStep_sub (B : Book) (l : List Nat) : (leftStep B l).Sublist l := List.filter_sublist
theorem heldGo_sub (B : Book) : ∀ (n : Nat) (l : List Nat), (heldGo B n l).Sublist l
  | 0, l => List.Sublist.refl l
  | n + 1, l => by
    rw [heldGo]
    split
    · exact leftStep_sub B l
    · exact (heldGo_sub B n _).trans (leftStep_sub B l)
theorem heldV_sub (B : Book) (rows : List Nat) : (heldV B rows).Sublist rows := (heldGo_sub B _ _).trans List.filter_sublist
section
variable {α : Type} [DecidableEq α] {l : List α} {x y : α}
theorem putS_mem : y ∈ putS l x ↔ y ∈ l ∨ y = x := by
  unfold putS
  split
  · rename_i h
    exact ⟨.inl, fun z => z.elim id fun e => by rw [e]; exact h⟩
  · rw [List.mem_append, List.mem_singleton]
theorem putS_nd (h : l.Nodup) : (putS l x).Nodup := by
  unfold putS
  split
  · exact h
  · rename_i hx
    rw [List.nodup_append]
    exact ⟨h, List.pairwise_singleton _ _, fun a ha b hb e => hx (by rw [← List.mem_singleton.mp hb, ← e]; exact ha)⟩
theorem putS_len : (putS l x).length ≤ l.length + 1 := by
  unfold putS
  split
  · omega
  · rw [List.length_append]
    exact Nat.le_refl _
theorem putS_ge : l.length ≤ (putS l x).length := by
  unfold putS
  split
  · omega
  · rw [List.length_append]
    exact Nat.le_add_right _ _
theorem putS_ne : putS l x ≠ [] := fun e => by
  have : x ∈ putS l x := putS_mem.mpr (.inr rfl)
  rw [e] at this
  cases this
end
/-! foldl of putS over a map -/
theorem foldPut_mem {α β : Type} [DecidableEq α] (f : β → α) (y : α) : ∀ (xs : List β) (l : List α), y ∈ xs.foldl (fun l b => putS l (f b)) l ↔ y ∈ l ∨ ∃ b ∈ xs, f b = y
  | [], l => ⟨.inl, fun z => z.elim id fun ⟨b, hb, _⟩ => nomatch hb⟩
  | b :: xs, l => by
    rw [List.foldl_cons, foldPut_mem f y xs, putS_mem]
    constructor
    · rintro ((h | h) | ⟨c, hc, h⟩)
      · exact .inl h
      · exact .inr ⟨b, List.mem_cons_self, h.symm⟩
      · exact .inr ⟨c, List.mem_cons_of_mem _ hc, h⟩
    · rintro (h | ⟨c, hc, h⟩)
      · exact .inl (.inl h)
      · rcases List.mem_cons.mp hc with e | hc
        · exact .inl (.inr (by rw [← h, e]))
        · exact .inr ⟨c, hc, h⟩
theorem foldPut_nd {α β : Type} [DecidableEq α] (f : β → α) : ∀ (xs : List β) (l : List α), l.Nodup → (xs.foldl (fun l b => putS l (f b)) l).Nodup
  | [], _, h => h
  | b :: xs, l, h => foldPut_nd f xs _ (putS_nd h)
theorem foldPut_len {α β : Type} [DecidableEq α] (f : β → α) : ∀ (xs : List β) (l : List α), (xs.foldl (fun l b => putS l (f b)) l).length ≤ l.length + xs.length
  | [], _ => Nat.le_refl _
  | b :: xs, l => by
    rw [List.foldl_cons, List.length_cons]
    have h1 := foldPut_len f xs (putS l (f b))
    have h2 := putS_len (l := l) (x := f b)
    omega
theorem nd_bound : ∀ {n : Nat} {l : List Nat}, l.Nodup → (∀ x ∈ l, x < n) → l.length ≤ n
  | 0, l, _, hl => by
    cases l with
    | nil => exact Nat.le_refl _
    | cons a r => exact absurd (hl a List.mem_cons_self) (Nat.not_lt_zero _)
  | n + 1, l, h, hl => by
    have z := nd_bound (n := n) (l := l.erase n) (h.erase n) fun x hx => by
      obtain ⟨h1, h2⟩ := (List.Nodup.mem_erase_iff h).mp hx
      have := hl x h2
      omega
    rw [List.length_erase] at z
    split at z <;> omega
/-! ### broken pairs -/
theorem pairV_mem {B : Book} {rows : List Nat} {b : Brk} (h : b ∈ pairV B rows) : b.i ∈ rows ∧ b.j ∈ rows ∧ b.i < b.j := by
  obtain ⟨i, hi, h⟩ := List.mem_flatMap.mp h
  obtain ⟨j, hj, h⟩ := List.mem_flatMap.mp h
  rcases List.mem_append.mp h with h | h
  · split at h
    · rename_i e
      rw [List.mem_singleton.mp h]
      rw [pairKeyB, Bool.and_eq_true] at e
      exact ⟨hi, hj, of_decide_eq_true e.1⟩
    · cases h
  · obtain ⟨q, _, h⟩ := List.mem_flatMap.mp h
    split at h
    · rename_i e
      rw [List.mem_singleton.mp h]
      rw [pairRuleB, Bool.and_eq_true] at e
      exact ⟨hi, hj, of_decide_eq_true e.1⟩
    · cases h
theorem clash_mem {B : Book} {p : Nat × Nat} : p ∈ clashesV B ↔ ∃ b ∈ pairV B (heldV B (allRows B)), (b.i, b.j) = p := by
  unfold clashesV pairKeys
  rw [List.mem_mergeSort, foldPut_mem]
  exact ⟨fun h => h.resolve_left (fun z => nomatch z), .inr⟩
theorem clash_in {B : Book} {p : Nat × Nat} (h : p ∈ clashesV B) : p.1 < B.rows.length ∧ p.2 < B.rows.length ∧ p.1 < p.2 ∧ p.1 ∈ heldV B (allRows B) ∧ p.2 ∈ heldV B (allRows B) := by
  obtain ⟨b, hb, rfl⟩ := clash_mem.mp h
  obtain ⟨h1, h2, h3⟩ := pairV_mem hb
  exact ⟨List.mem_range.mp ((heldV_sub B _).subset h1), List.mem_range.mp ((heldV_sub B _).subset h2), h3, h1, h2⟩
theorem clash_nd (B : Book) : (clashesV B).Nodup := (List.mergeSort_perm _ _).nodup_iff.mpr (foldPut_nd _ _ _ List.Pairwise.nil)
theorem clashRows_mem (y : Nat) : ∀ (ps : List (Nat × Nat)) (l : List Nat), y ∈ ps.foldl (fun l p => putS (putS l p.1) p.2) l ↔ y ∈ l ∨ ∃ p ∈ ps, p.1 = y ∨ p.2 = y
  | [], l => ⟨.inl, fun z => z.elim id fun ⟨b, hb, _⟩ => nomatch hb⟩
  | p :: ps, l => by
    rw [List.foldl_cons, clashRows_mem y ps, putS_mem, putS_mem]
    constructor
    · rintro (((h | h) | h) | ⟨c, hc, h⟩)
      · exact .inl h
      · exact .inr ⟨p, List.mem_cons_self, .inl h.symm⟩
      · exact .inr ⟨p, List.mem_cons_self, .inr h.symm⟩
      · exact .inr ⟨c, List.mem_cons_of_mem _ hc, h⟩
    · rintro (h | ⟨c, hc, h⟩)
      · exact .inl (.inl (.inl h))
      · rcases List.mem_cons.mp hc with e | hc
        · rw [e] at h
          rcases h with h | h
          · exact .inl (.inl (.inr h.symm))
          · exact .inl (.inr h.symm)
        · exact .inr ⟨c, hc, h⟩
theorem clashRows_nd : ∀ (ps : List (Nat × Nat)) (l : List Nat), l.Nodup → (ps.foldl (fun l p => putS (putS l p.1) p.2) l).Nodup
  | [], _, h => h
  | p :: ps, l, h => clashRows_nd ps _ (putS_nd (putS_nd h))
theorem rowsV_mem {ps : List (Nat × Nat)} {y : Nat} : y ∈ rowsV ps ↔ ∃ p ∈ ps, p.1 = y ∨ p.2 = y := by
  unfold rowsV clashRows
  rw [List.mem_mergeSort, clashRows_mem]
  exact ⟨fun h => h.resolve_left (fun z => nomatch z), .inr⟩
theorem rowsV_nd (ps : List (Nat × Nat)) : (rowsV ps).Nodup := (List.mergeSort_perm _ _).nodup_iff.mpr (clashRows_nd _ _ List.Pairwise.nil)
theorem rowsV_held {B : Book} {i : Nat} (h : i ∈ rowsV (clashesV B)) : i ∈ heldV B (allRows B) := by
  obtain ⟨p, hp, h⟩ := rowsV_mem.mp h
  obtain ⟨_, _, _, h1, h2⟩ := clash_in hp
  rcases h with h | h
  · rw [← h]
    exact h1
  · rw [← h]
    exact h2
theorem held_lt {B : Book} {i : Nat} (h : i ∈ heldV B (allRows B)) : i < B.rows.length := List.mem_range.mp ((heldV_sub B _).subset h)
theorem rowsV_len (B : Book) : (rowsV (clashesV B)).length ≤ B.rows.length := nd_bound (rowsV_nd _) fun x hx => held_lt (rowsV_held hx)
/-! ### free sets -/
def freeUpTo (pairs : List (Nat × Nat)) (rows : List Nat) (k : Nat) : List (List Nat) := freeTo pairs rows (rows.zipIdx.take k)
theorem freePut_mem {pairs : List (Nat × Nat)} {pre : List Nat} {i : Nat} {more : List (List Nat)} {free y : List Nat} (h : y ∈ freePut pairs pre i more free) : y ∈ more ∨ y = free ∨ y = restV pairs i free ++ [i] := by
  unfold freePut at h
  simp only at h
  split at h
  · rcases putS_mem.mp h with h | h
    · split at h
      · rcases putS_mem.mp h with h | h
        · exact .inl h
        · exact .inr (.inl h)
      · exact .inl h
    · exact .inr (.inr h)
  · split at h
    · rcases putS_mem.mp h with h | h
      · exact .inl h
      · exact .inr (.inl h)
    · exact .inl h
theorem freePut_len {pairs : List (Nat × Nat)} {pre : List Nat} {i : Nat} {more : List (List Nat)} {free : List Nat} : (freePut pairs pre i more free).length ≤ more.length + 2 := by
  unfold freePut
  simp only
  split
  · refine Nat.le_trans putS_len ?_
    split
    · have := putS_len (l := more) (x := free)
      omega
    · omega
  · split
    · have := putS_len (l := more) (x := free)
      omega
    · omega
theorem freePut_ne {pairs : List (Nat × Nat)} {pre : List Nat} {i : Nat} {more : List (List Nat)} {free : List Nat} : freePut pairs pre i more free ≠ [] := by
  unfold freePut
  simp only
  split
  · exact putS_ne
  · rename_i h
    have h1 : (restV pairs i free).length ≤ free.length := List.length_filter_le ..
    split
    · exact putS_ne
    · rename_i h2
      have : (restV pairs i free).length = free.length := by omega
      rw [this] at h
      simp at h
theorem freeStep_mem {pairs : List (Nat × Nat)} {pre : List Nat} {i : Nat} {y : List Nat} : ∀ {found more : List (List Nat)}, y ∈ found.foldl (freePut pairs pre i) more → y ∈ more ∨ ∃ free ∈ found, y = free ∨ y = restV pairs i free ++ [i]
  | [], _, h => .inl h
  | f :: fs, more, h => by
    rcases freeStep_mem (found := fs) h with h | ⟨g, hg, h⟩
    · rcases freePut_mem h with h | h
      · exact .inl h
      · exact .inr ⟨f, List.mem_cons_self, h⟩
    · exact .inr ⟨g, List.mem_cons_of_mem _ hg, h⟩
theorem freeStep_len {pairs : List (Nat × Nat)} {pre : List Nat} {i : Nat} : ∀ (found more : List (List Nat)), (found.foldl (freePut pairs pre i) more).length ≤ more.length + 2 * found.length
  | [], _ => Nat.le_add_right _ _
  | f :: fs, more => by
    rw [List.foldl_cons, List.length_cons]
    have h1 := freeStep_len (pairs := pairs) (pre := pre) (i := i) fs (freePut pairs pre i more f)
    have h2 := freePut_len (pairs := pairs) (pre := pre) (i := i) (more := more) (free := f)
    omega
theorem freeStep_ne {pairs : List (Nat × Nat)} {pre : List Nat} {i : Nat} : ∀ (found more : List (List Nat)), found ≠ [] ∨ more ≠ [] → found.foldl (freePut pairs pre i) more ≠ []
  | [], _, h => h.resolve_left fun z => z rfl
  | f :: fs, more, _ => freeStep_ne fs _ (.inr freePut_ne)
theorem freeTo_snoc (pairs : List (Nat × Nat)) (rows : List Nat) (pre : List (Nat × Nat)) (p : Nat × Nat) : freeTo pairs rows (pre ++ [p]) = freeStep pairs (rows.take p.2) p.1 (freeTo pairs rows pre) := by
  unfold freeTo
  rw [List.foldl_append]
  rfl
theorem zip_snoc {rows : List Nat} {k : Nat} (h : k < rows.length) : rows.zipIdx.take (k + 1) = rows.zipIdx.take k ++ [(rows[k], k)] := by
  have e : rows.zipIdx[k]? = some (rows[k], k) := by
    rw [List.getElem?_zipIdx, List.getElem?_eq_getElem h, Nat.zero_add]
    rfl
  rw [List.take_succ, e]
  rfl
/-- what is found when k rows have been seen -/
theorem free_found (pairs : List (Nat × Nat)) (rows : List Nat) : ∀ k, k ≤ rows.length → freeUpTo pairs rows k ≠ [] ∧ (freeUpTo pairs rows k).length ≤ 2 ^ k ∧ ∀ f ∈ freeUpTo pairs rows k, f.Sublist (rows.take k)
  | 0, _ => by
    refine ⟨(fun z => nomatch z), Nat.le_refl _, fun f hf => ?_⟩
    have hf : f ∈ [([] : List Nat)] := hf
    rw [List.mem_singleton.mp hf]
    exact List.nil_sublist _
  | k + 1, h => by
    obtain ⟨h1, h2, h3⟩ := free_found pairs rows k (by omega)
    have e : freeUpTo pairs rows (k + 1) = freeStep pairs (rows.take k) rows[k] (freeUpTo pairs rows k) := by
      unfold freeUpTo
      rw [zip_snoc (by omega), freeTo_snoc]
    have e2 : rows.take (k + 1) = rows.take k ++ [rows[k]] := by
      rw [List.take_succ, List.getElem?_eq_getElem (by omega)]
      rfl
    rw [e, e2]
    refine ⟨freeStep_ne _ _ (.inl h1), ?_, fun f hf => ?_⟩
    · have z := freeStep_len (pairs := pairs) (pre := rows.take k) (i := rows[k]) (freeUpTo pairs rows k) []
      have z : (freeStep pairs (rows.take k) rows[k] (freeUpTo pairs rows k)).length ≤ 0 + 2 * (freeUpTo pairs rows k).length := z
      rw [Nat.pow_succ]
      omega
    · rcases freeStep_mem hf with hf | ⟨g, hg, hf⟩
      · cases hf
      · have sg := h3 g hg
        rcases hf with e | e
        · rw [e]
          exact sg.trans (List.sublist_append_left _ _)
        · rw [e]
          exact ((List.filter_sublist).trans sg).append (List.Sublist.refl _)
theorem freeV_eq (rows : List Nat) (pairs : List (Nat × Nat)) : freeV rows pairs = freeUpTo pairs rows rows.length := by
  unfold freeV freeUpTo
  rw [List.take_of_length_le (by rw [List.length_zipIdx]; exact Nat.le_refl _)]
theorem freeV_ne (rows : List Nat) (pairs : List (Nat × Nat)) : freeV rows pairs ≠ [] := by
  rw [freeV_eq]
  exact (free_found pairs rows _ (Nat.le_refl _)).1
theorem freeV_sub {rows : List Nat} {pairs : List (Nat × Nat)} {f : List Nat} (h : f ∈ freeV rows pairs) : f.Sublist rows := by
  rw [freeV_eq] at h
  have z := (free_found pairs rows _ (Nat.le_refl _)).2.2 f h
  rwa [List.take_length] at z
/-! ### bits -/
def bitsN (l : List Nat) : Nat := l.foldl (fun a i => a ||| 2 ^ i) 0
theorem bits_go : ∀ (l : List Nat) (a : Nat), l.foldl (fun (a : Int) (i : Nat) => Builtin.bitOr a (1 * 2 ^ ((i : Nat) : Int).toNat)) ((a : Nat) : Int) = ((l.foldl (fun a i => a ||| 2 ^ i) a : Nat) : Int)
  | [], _ => rfl
  | i :: l, a => by
    rw [List.foldl_cons, List.foldl_cons]
    have e : Builtin.bitOr ((a : Nat) : Int) (1 * 2 ^ ((i : Nat) : Int).toNat) = ((a ||| 2 ^ i : Nat) : Int) := by
      have e2 : (1 : Int) * 2 ^ ((i : Nat) : Int).toNat = ((2 ^ i : Nat) : Int) := by
        rw [Int.toNat_natCast, Int.one_mul, Int.natCast_pow]
        rfl
      rw [e2, Bits.bitOr_pp (Int.natCast_nonneg _) (Int.natCast_nonneg _), Int.toNat_natCast, Int.toNat_natCast]
    rw [e]
    exact bits_go l _
theorem bitsV_eq (l : List Nat) : bitsV l = ((bitsN l : Nat) : Int) := bits_go l 0
theorem bitsN_go (k : Nat) : ∀ (l : List Nat) (a : Nat), (l.foldl (fun a i => a ||| 2 ^ i) a).testBit k = (a.testBit k || decide (k ∈ l))
  | [], a => by
    rw [decide_eq_false (fun z => nomatch z), Bool.or_false]
    rfl
  | i :: l, a => by
    rw [List.foldl_cons, bitsN_go k l, Nat.testBit_or, Nat.testBit_two_pow, Bool.or_assoc]
    congr 1
    rw [Bool.eq_iff_iff, Bool.or_eq_true, decide_eq_true_iff, decide_eq_true_iff, decide_eq_true_iff, List.mem_cons]
    exact ⟨fun h => h.imp Eq.symm id, fun h => h.imp Eq.symm id⟩
theorem bitsN_test (l : List Nat) (k : Nat) : (bitsN l).testBit k = decide (k ∈ l) := by
  unfold bitsN
  rw [bitsN_go, Nat.zero_testBit, Bool.false_or]
theorem bits_iff {a b : List Nat} : bitsV a = bitsV b ↔ ∀ k, k ∈ a ↔ k ∈ b := by
  rw [bitsV_eq, bitsV_eq]
  constructor
  · intro h k
    have h : bitsN a = bitsN b := by omega
    have z := bitsN_test a k
    rw [h, bitsN_test] at z
    exact (decide_eq_decide.mp z).symm
  · intro h
    have : bitsN a = bitsN b := Nat.eq_of_testBit_eq fun k => by
      rw [bitsN_test, bitsN_test]
      exact decide_eq_decide.mpr (h k)
    rw [this]
theorem and_nat (x y : Nat) : Builtin.bitAnd ((x : Nat) : Int) ((y : Nat) : Int) = ((x &&& y : Nat) : Int) := by
  unfold Builtin.bitAnd
  rw [decide_eq_true (by omega), decide_eq_true (by omega)]
  rfl
theorem under_iff {a b : List Nat} : Builtin.bitAnd (bitsV a) (bitsV b) = bitsV a ↔ ∀ k, k ∈ a → k ∈ b := by
  rw [bitsV_eq, bitsV_eq, and_nat]
  constructor
  · intro h k hk
    have h : bitsN a &&& bitsN b = bitsN a := by omega
    have z := congrArg (fun n => n.testBit k) h
    simp only [Nat.testBit_and, bitsN_test] at z
    rw [decide_eq_true hk, Bool.true_and] at z
    exact of_decide_eq_true z
  · intro h
    have : bitsN a &&& bitsN b = bitsN a := Nat.eq_of_testBit_eq fun k => by
      rw [Nat.testBit_and, bitsN_test, bitsN_test]
      by_cases hk : k ∈ a
      · rw [decide_eq_true hk, decide_eq_true (h k hk)]
        rfl
      · rw [decide_eq_false hk]
        rfl
    rw [this]
/-! ### the sets by their bits -/
def bput (l : List (Int × List Nat)) (k : Int) (r : List Nat) : List (Int × List Nat) := if (l.any fun kv => decide (kv.1 = k)) = true then l.map (fun kv => if kv.1 = k then (kv.1, r) else kv) else l ++ [(k, r)]
theorem byBits_eq (some : List (List Nat)) : byBits some = some.foldl (fun l r => bput l (bitsV r) r) [] := rfl
theorem bput_keys (l : List (Int × List Nat)) (k : Int) (r : List Nat) : (bput l k r).map (·.1) = putS (l.map (·.1)) k := by
  have hany : (l.any fun kv => decide (kv.1 = k)) = true ↔ k ∈ l.map (·.1) := by
    rw [List.any_eq_true, List.mem_map]
    exact ⟨fun ⟨x, h1, h2⟩ => ⟨x, h1, of_decide_eq_true h2⟩, fun ⟨x, h1, h2⟩ => ⟨x, h1, decide_eq_true h2⟩⟩
  unfold bput putS
  by_cases h : (l.any fun kv => decide (kv.1 = k)) = true
  · rw [if_pos h, if_pos (hany.mp h), List.map_map]
    refine List.map_congr_left fun kv _ => ?_
    show (if kv.1 = k then (kv.1, r) else kv).1 = kv.1
    split <;> rfl
  · rw [if_neg h, if_neg (fun z => h (hany.mpr z)), List.map_append]
    rfl
theorem bput_mem {l : List (Int × List Nat)} {k : Int} {r : List Nat} {kv : Int × List Nat} (h : kv ∈ bput l k r) : kv ∈ l ∨ kv = (k, r) := by
  unfold bput at h
  split at h
  · obtain ⟨x, hx, e⟩ := List.mem_map.mp h
    split at e
    · rename_i hk
      right
      rw [← e, hk]
    · left
      rw [← e]
      exact hx
  · rcases List.mem_append.mp h with h | h
    · exact .inl h
    · exact .inr (List.mem_singleton.mp h)
theorem byBits_go : ∀ (some : List (List Nat)) (l : List (Int × List Nat)), (l.map (·.1)).Nodup → (∀ kv ∈ l, kv.1 = bitsV kv.2) →
    ((some.foldl (fun l r => bput l (bitsV r) r) l).map (·.1)).Nodup ∧ (∀ kv ∈ some.foldl (fun l r => bput l (bitsV r) r) l, kv.1 = bitsV kv.2 ∧ (kv ∈ l ∨ kv.2 ∈ some)) ∧
    (∀ y, y ∈ (some.foldl (fun l r => bput l (bitsV r) r) l).map (·.1) ↔ y ∈ l.map (·.1) ∨ ∃ r ∈ some, bitsV r = y) ∧ (some.foldl (fun l r => bput l (bitsV r) r) l).length ≤ l.length + some.length
  | [], l, h1, h2 => ⟨h1, fun kv hk => ⟨h2 kv hk, .inl hk⟩, fun y => ⟨.inl, fun z => z.elim id fun ⟨r, hr, _⟩ => nomatch hr⟩, Nat.le_refl _⟩
  | r :: ss, l, h1, h2 => by
    have k1 : ((bput l (bitsV r) r).map (·.1)).Nodup := by
      rw [bput_keys]
      exact putS_nd h1
    have k2 : ∀ kv ∈ bput l (bitsV r) r, kv.1 = bitsV kv.2 := fun kv hk => by
      rcases bput_mem hk with h | h
      · exact h2 kv h
      · rw [h]
    obtain ⟨g1, g2, g3, g4⟩ := byBits_go ss _ k1 k2
    rw [List.foldl_cons]
    refine ⟨g1, fun kv hk => ?_, fun y => ?_, ?_⟩
    · obtain ⟨e1, e2⟩ := g2 kv hk
      refine ⟨e1, ?_⟩
      rcases e2 with e2 | e2
      · rcases bput_mem e2 with h | h
        · exact .inl h
        · right
          rw [h]
          exact List.mem_cons_self
      · exact .inr (List.mem_cons_of_mem _ e2)
    · rw [g3 y, bput_keys, putS_mem]
      constructor
      · rintro ((h | h) | ⟨c, hc, h⟩)
        · exact .inl h
        · exact .inr ⟨r, List.mem_cons_self, h.symm⟩
        · exact .inr ⟨c, List.mem_cons_of_mem _ hc, h⟩
      · rintro (h | ⟨c, hc, h⟩)
        · exact .inl (.inl h)
        · rcases List.mem_cons.mp hc with e | hc
          · exact .inl (.inr (by rw [← h, e]))
          · exact .inr ⟨c, hc, h⟩
    · have z : ((bput l (bitsV r) r).map (·.1)).length ≤ (l.map (·.1)).length + 1 := by
        rw [bput_keys]
        exact putS_len
      rw [List.length_map, List.length_map] at z
      rw [List.length_cons]
      omega
section
variable {some : List (List Nat)}
theorem byBits_nd : ((byBits some).map (·.1)).Nodup := (byBits_go some [] List.Pairwise.nil (fun kv h => nomatch h)).1
theorem byBits_in {kv : Int × List Nat} (h : kv ∈ byBits some) : kv.1 = bitsV kv.2 ∧ kv.2 ∈ some := by
  obtain ⟨h1, h2⟩ := (byBits_go some [] List.Pairwise.nil (fun kv h => nomatch h)).2.1 kv h
  exact ⟨h1, h2.resolve_left fun z => nomatch z⟩
theorem byBits_keys {y : Int} : y ∈ (byBits some).map (·.1) ↔ ∃ r ∈ some, bitsV r = y := by
  rw [show (y ∈ (byBits some).map (·.1)) = (y ∈ (some.foldl (fun l r => bput l (bitsV r) r) []).map (·.1)) from rfl, (byBits_go some [] List.Pairwise.nil (fun kv h => nomatch h)).2.2.1 y]
  exact ⟨fun h => h.resolve_left (fun z => nomatch z), .inr⟩
theorem byBits_len : (byBits some).length ≤ some.length := by
  have := (byBits_go some [] List.Pairwise.nil (fun kv h => nomatch h)).2.2.2
  rwa [List.length_nil, Nat.zero_add] at this
theorem greatest_in {s : List Nat} (h : s ∈ greatestOnes some) : s ∈ some := by
  obtain ⟨kv, h1, e⟩ := List.mem_map.mp h
  rw [← e]
  exact (byBits_in (List.mem_filter.mp h1).1).2
/-- the one with the greatest number is never left out -/
theorem greatest_ne (h : some ≠ []) : greatestOnes some ≠ [] := by
  have hb : byBits some ≠ [] := by
    obtain ⟨r, hr⟩ := List.exists_mem_of_ne_nil _ h
    intro e
    have : bitsV r ∈ (byBits some).map (·.1) := byBits_keys.mpr ⟨r, hr, rfl⟩
    rw [e] at this
    cases this
  have hmax : ∀ (l : List (Int × List Nat)), l ≠ [] → ∃ kv ∈ l, ∀ y ∈ l, y.1 ≤ kv.1 := by
    intro l
    induction l with
    | nil => exact fun z => absurd rfl z
    | cons a r ih =>
      intro _
      by_cases hr : r = []
      · rw [hr]
        exact ⟨a, List.mem_cons_self, fun y hy => by rw [List.mem_singleton.mp hy]; exact Int.le_refl _⟩
      · obtain ⟨m, h1, h2⟩ := ih hr
        by_cases hc : m.1 ≤ a.1
        · refine ⟨a, List.mem_cons_self, fun y hy => ?_⟩
          rcases List.mem_cons.mp hy with e | hy
          · rw [e]
            exact Int.le_refl _
          · exact Int.le_trans (h2 y hy) hc
        · refine ⟨m, List.mem_cons_of_mem _ h1, fun y hy => ?_⟩
          rcases List.mem_cons.mp hy with e | hy
          · rw [e]
            omega
          · exact h2 y hy
  obtain ⟨kv, h1, h2⟩ := hmax _ hb
  intro e
  have hk : kv.2 ∈ greatestOnes some := by
    refine List.mem_map.mpr ⟨kv, List.mem_filter.mpr ⟨h1, ?_⟩, rfl⟩
    rw [Bool.not_eq_true', underB, List.any_eq_false]
    intro y hy hu
    rw [Bool.and_eq_true, Bool.not_eq_true', decide_eq_false_iff_not, decide_eq_true_iff] at hu
    obtain ⟨hne, hand⟩ := hu
    obtain ⟨r, hr, er⟩ := byBits_keys.mp hy
    obtain ⟨kv', hk', e'⟩ := List.mem_map.mp hy
    have hle : y ≤ kv.1 := by
      rw [← e']
      exact h2 kv' hk'
    obtain ⟨e1, _⟩ := byBits_in h1
    rw [e1, ← er] at hand hne hle
    rw [bitsV_eq, bitsV_eq, and_nat] at hand
    rw [bitsV_eq, bitsV_eq] at hne hle
    have h3 : bitsN kv.2 &&& bitsN r ≤ bitsN r := Nat.and_le_right
    omega
  rw [e] at hk
  cases hk
/-- where the empty set is among them it is the only one -/
theorem greatest_one (h : [] ∈ greatestOnes some) : (greatestOnes some).length ≤ 1 := by
  obtain ⟨kv, h1, e⟩ := List.mem_map.mp h
  obtain ⟨h2, h3⟩ := List.mem_filter.mp h1
  obtain ⟨e1, _⟩ := byBits_in h2
  rw [e] at e1
  have e1 : kv.1 = 0 := e1
  rw [Bool.not_eq_true', underB, List.any_eq_false] at h3
  have all0 : ∀ y ∈ (byBits some).map (·.1), y = 0 := fun y hy => by
    have := h3 y hy
    rw [e1, Bool.and_eq_true, Bool.not_eq_true', decide_eq_false_iff_not, decide_eq_true_iff] at this
    obtain ⟨r, _, er⟩ := byBits_keys.mp hy
    have ha : Builtin.bitAnd 0 y = 0 := by
      rw [← er, bitsV_eq]
      have z := and_nat 0 (bitsN r)
      rw [Nat.zero_and] at z
      exact z
    by_cases hy0 : y = 0
    · exact hy0
    · exact absurd ⟨fun z => hy0 z.symm, ha⟩ this
  have hl : (byBits some).length ≤ 1 := by
    have nd := byBits_nd (some := some)
    cases hc : byBits some with
    | nil => exact Nat.zero_le _
    | cons a r =>
      cases r with
      | nil => exact Nat.le_refl _
      | cons b r =>
        rw [hc] at nd all0
        have ea := all0 a.1 List.mem_cons_self
        have eb := all0 b.1 (List.mem_cons_of_mem _ List.mem_cons_self)
        rw [List.map_cons, List.map_cons] at nd
        exact absurd (ea.trans eb.symm) ((List.nodup_cons.mp nd).1 ∘ fun z => by rw [z]; exact List.mem_cons_self)
  unfold greatestOnes
  rw [List.length_map]
  exact Nat.le_trans (List.length_filter_le ..) hl
end
/-! ### mended books -/
theorem others_in {B : Book} {i : Nat} (h : i ∈ othersV B (rowsV (clashesV B))) : i ∈ heldV B (allRows B) ∧ i ∉ rowsV (clashesV B) := by
  obtain ⟨h1, h2⟩ := List.mem_filter.mp h
  exact ⟨h1, fun z => by rw [decide_eq_true z] at h2; cases h2⟩
theorem sortN_mem {l : List Nat} {i : Nat} : i ∈ sortN l ↔ i ∈ l := List.mem_mergeSort
theorem sortN_len (l : List Nat) : (sortN l).length = l.length := List.length_mergeSort ..
theorem free_others {B : Book} {f : List Nat} (h : f ∈ freeV (rowsV (clashesV B)) (clashesV B)) : (f ++ othersV B (rowsV (clashesV B))).Nodup ∧ ∀ i ∈ f ++ othersV B (rowsV (clashesV B)), i < B.rows.length := by
  have hs := freeV_sub h
  have hall : ∀ i ∈ f ++ othersV B (rowsV (clashesV B)), i ∈ heldV B (allRows B) := fun i hi => by
    rcases List.mem_append.mp hi with h | h
    · exact rowsV_held (hs.subset h)
    · exact (others_in h).1
  refine ⟨?_, fun i hi => held_lt (hall i hi)⟩
  rw [List.nodup_append]
  have hn : (heldV B (allRows B)).Nodup := (heldV_sub B _).nodup List.nodup_range
  exact ⟨hs.nodup (rowsV_nd _), (List.filter_sublist).nodup hn, fun a ha b hb e => (others_in hb).2 (by rw [← e]; exact hs.subset ha)⟩
theorem someV_ne (B : Book) : someV B ≠ [] := fun e => freeV_ne _ _ (List.map_eq_nil_iff.mp e)
theorem someV_in {B : Book} {s : List Nat} (h : s ∈ someV B) : (∀ i ∈ s, i < B.rows.length) ∧ s.length ≤ B.rows.length := by
  obtain ⟨f, hf, e⟩ := List.mem_map.mp h
  obtain ⟨h1, h2⟩ := free_others hf
  have hs := heldV_sub B (sortN (f ++ othersV B (rowsV (clashesV B))))
  rw [e] at hs
  refine ⟨fun i hi => h2 i (sortN_mem.mp (hs.subset hi)), ?_⟩
  have := hs.length_le
  rw [sortN_len] at this
  exact Nat.le_trans this (nd_bound h1 h2)
theorem mended_in {B : Book} {s : List Nat} (h : s ∈ mendedV B) : (∀ i ∈ s, i < B.rows.length) ∧ s.length ≤ B.rows.length := someV_in (greatest_in (List.mem_mergeSort.mp h))
theorem mended_ne (B : Book) : mendedV B ≠ [] := fun e => by
  have z := List.length_mergeSort (le := setLe) (greatestOnes (someV B))
  have e : (greatestOnes (someV B)).mergeSort setLe = [] := e
  rw [e] at z
  exact greatest_ne (someV_ne B) (List.length_eq_zero_iff.mp z.symm)
theorem someV_len (B : Book) (h : B.rows.length ≤ 10) : (someV B).length ≤ 1024 := by
  unfold someV
  rw [List.length_map, freeV_eq]
  have h1 := (free_found (clashesV B) (rowsV (clashesV B)) _ (Nat.le_refl _)).2.1
  have h2 := rowsV_len B
  have h3 : 2 ^ (rowsV (clashesV B)).length ≤ 2 ^ 10 := Nat.pow_le_pow_right (by decide) (by omega)
  omega
end Md
namespace Md
open PySem
/-! ### least, greatest, first -/
theorem fold_min : ∀ (l : List Int) (a : Int), l.foldl min a ≤ a ∧ (∀ y ∈ l, l.foldl min a ≤ y) ∧ (l.foldl min a = a ∨ l.foldl min a ∈ l)
  | [], a => ⟨Int.le_refl _, (fun y h => nomatch h), .inl rfl⟩
  | x :: l, a => by
    obtain ⟨h1, h2, h3⟩ := fold_min l (min a x)
    rw [List.foldl_cons]
    refine ⟨by omega, fun y hy => ?_, ?_⟩
    · rcases List.mem_cons.mp hy with e | hy
      · omega
      · exact h2 y hy
    · rcases h3 with h3 | h3
      · by_cases h : a ≤ x
        · left
          omega
        · right
          rw [h3]
          have e : min a x = x := by omega
          rw [e]
          exact List.mem_cons_self
      · exact .inr (List.mem_cons_of_mem _ h3)
theorem fold_max : ∀ (l : List Int) (a : Int), a ≤ l.foldl max a ∧ (∀ y ∈ l, y ≤ l.foldl max a) ∧ (l.foldl max a = a ∨ l.foldl max a ∈ l)
  | [], a => ⟨Int.le_refl _, (fun y h => nomatch h), .inl rfl⟩
  | x :: l, a => by
    obtain ⟨h1, h2, h3⟩ := fold_max l (max a x)
    rw [List.foldl_cons]
    refine ⟨by omega, fun y hy => ?_, ?_⟩
    · rcases List.mem_cons.mp hy with e | hy
      · omega
      · exact h2 y hy
    · rcases h3 with h3 | h3
      · by_cases h : x ≤ a
        · left
          omega
        · right
          rw [h3]
          have e : max a x = x := by omega
          rw [e]
          exact List.mem_cons_self
      · exact .inr (List.mem_cons_of_mem _ h3)
theorem minV_ok {l : List Int} (h : l ≠ []) : minV l ∈ l ∧ ∀ y ∈ l, minV l ≤ y := by
  cases l with
  | nil => exact absurd rfl h
  | cons a r =>
    obtain ⟨h1, h2, h3⟩ := fold_min (a :: r) a
    refine ⟨?_, h2⟩
    rcases h3 with h3 | h3
    · have e : minV (a :: r) = a := h3
      rw [e]
      exact List.mem_cons_self
    · exact h3
theorem maxV_ok {l : List Int} (h : l ≠ []) : maxV l ∈ l ∧ ∀ y ∈ l, y ≤ maxV l := by
  cases l with
  | nil => exact absurd rfl h
  | cons a r =>
    obtain ⟨h1, h2, h3⟩ := fold_max (a :: r) a
    refine ⟨?_, h2⟩
    rcases h3 with h3 | h3
    · have e : maxV (a :: r) = a := h3
      rw [e]
      exact List.mem_cons_self
    · exact h3
theorem first_ok {l : List Int} {m : Int} (h : m ∈ l) : l[firstAt l m]? = some m ∧ ∀ (k : Nat) (z : Int), k < firstAt l m → l[k]? = some z → z ≠ m := by
  have hlt : firstAt l m < l.length := List.findIdx_lt_length_of_exists ⟨m, h, decide_eq_true rfl⟩
  refine ⟨?_, fun k z hk hz => ?_⟩
  · rw [List.getElem?_eq_getElem hlt]
    exact congrArg some (of_decide_eq_true (List.findIdx_getElem (p := fun z => decide (z = m)) (w := hlt)))
  · intro e
    have hk2 : k < l.length := Nat.lt_trans hk hlt
    rw [List.getElem?_eq_getElem hk2] at hz
    have := List.not_of_lt_findIdx (p := fun z => decide (z = m)) hk
    rw [Option.some.inj hz, e] at this
    simp at this
/-! ### worths -/
theorem worth_bound {B : Book} (hB : B.Ok) {t c i : Nat} (hi : i < B.rows.length) (hc : ColOk B.tabs t c) : -bey < worthV B.rows t c i ∧ worthV B.rows t c i < bey := by
  unfold worthV
  split
  · exact ⟨by decide, by decide⟩
  · rename_i e
    have hr : rowAt B.rows i ∈ B.rows := by
      rw [rowAt, List.getD_eq_getElem?_getD, List.getElem?_eq_getElem hi]
      exact List.getElem_mem hi
    obtain ⟨T, h1, h2, h3⟩ := hB.row _ hr
    have et : (rowAt B.rows i).t = t := by simpa using e
    obtain ⟨T', g1, g2⟩ := hc
    rw [et] at h1
    rw [h1] at g1
    cases g1
    have hlt : c < (rowAt B.rows i).cs.length := by omega
    have hok : (cellAt (rowAt B.rows i) c).Ok := by
      refine h3 _ ?_
      rw [cellAt, List.getD_eq_getElem?_getD, List.getElem?_eq_getElem hlt]
      exact List.getElem_mem hlt
    cases hcell : cellAt (rowAt B.rows i) c with
    | z v =>
      rw [hcell] at hok
      have hok : 0 - bey < v ∧ v < bey := hok
      show -bey < v ∧ v < bey
      omega
    | s x =>
      show -bey < 0 ∧ 0 < bey
      exact ⟨by decide, by decide⟩
theorem log2_small {v : Int} (h : -bey < v ∧ v < bey) : v.natAbs.log2 < 200 := by
  by_cases h0 : v.natAbs = 0
  · rw [h0]
    decide
  · rw [Nat.log2_lt h0]
    have h1 : v.natAbs < 1000000000000000000000000000000 := by
      have e : bey = 1000000000000000000000000000000 := rfl
      rw [e] at h
      omega
    exact Nat.lt_trans h1 (by decide)
/-! ### blocks -/
theorem put_keys (l : List (Row × List Nat)) (k : Row) (i : Nat) : (blockPut l k i).map (·.1) = putS (l.map (·.1)) k := by
  have hany : (l.any fun kv => decide (kv.1 = k)) = true ↔ k ∈ l.map (·.1) := by
    rw [List.any_eq_true, List.mem_map]
    exact ⟨fun ⟨x, h1, h2⟩ => ⟨x, h1, of_decide_eq_true h2⟩, fun ⟨x, h1, h2⟩ => ⟨x, h1, decide_eq_true h2⟩⟩
  unfold blockPut putS
  by_cases h : (l.any fun kv => decide (kv.1 = k)) = true
  · rw [if_pos h, if_pos (hany.mp h), List.map_map]
    refine List.map_congr_left fun kv _ => ?_
    show (if kv.1 = k then (kv.1, kv.2 ++ [i]) else kv).1 = kv.1
    split <;> rfl
  · rw [if_neg h, if_neg (fun z => h (hany.mpr z)), List.map_append]
    rfl
/-- the blocks that the pairs of keys and places make -/
def blocksTo (qs : List (Row × Nat)) (l : List (Row × List Nat)) : List (Row × List Nat) := qs.foldl (fun l q => blockPut l q.1 q.2) l
def placesOf (qs : List (Row × Nat)) (k : Row) : List Nat := (qs.filter fun q => decide (q.1 = k)).map (·.2)
theorem blockPut_mem {l : List (Row × List Nat)} {k : Row} {i : Nat} (kv : Row × List Nat) : kv ∈ blockPut l k i → (kv ∈ l ∧ kv.1 ≠ k) ∨ (∃ s, (k, s) ∈ l ∧ kv = (k, s ++ [i])) ∨ (kv = (k, [i]) ∧ k ∉ l.map (·.1)) := by
  intro h
  unfold blockPut at h
  split at h
  · obtain ⟨x, hx, e⟩ := List.mem_map.mp h
    split at e
    · rename_i hk
      right; left
      refine ⟨x.2, ?_, ?_⟩
      · rw [← hk]
        exact hx
      · rw [← e, hk]
    · rename_i hk
      left
      rw [← e]
      exact ⟨hx, hk⟩
  · rename_i hn
    have hnk : k ∉ l.map (·.1) := fun z => by
      obtain ⟨x, hx, e⟩ := List.mem_map.mp z
      exact hn (List.any_eq_true.mpr ⟨x, hx, decide_eq_true e⟩)
    rcases List.mem_append.mp h with h | h
    · left
      refine ⟨h, fun e => hnk (by rw [← e]; exact List.mem_map.mpr ⟨kv, h, rfl⟩)⟩
    · exact .inr (.inr ⟨List.mem_singleton.mp h, hnk⟩)
/-- each block holds the places of its key, in their order -/
theorem blocks_inv : ∀ (qs done : List (Row × Nat)) (l : List (Row × List Nat)), (l.map (·.1)).Nodup → (∀ kv ∈ l, kv.2 = placesOf done kv.1 ∧ kv.2 ≠ []) → (∀ k, k ∈ l.map (·.1) ↔ ∃ q ∈ done, q.1 = k) →
    ((blocksTo qs l).map (·.1)).Nodup ∧ (∀ kv ∈ blocksTo qs l, kv.2 = placesOf (done ++ qs) kv.1 ∧ kv.2 ≠ []) ∧ ∀ k, k ∈ (blocksTo qs l).map (·.1) ↔ ∃ q ∈ done ++ qs, q.1 = k
  | [], done, l, h1, h2, h3 => by
    rw [List.append_nil]
    exact ⟨h1, h2, h3⟩
  | q :: qs, done, l, h1, h2, h3 => by
    have e : done ++ q :: qs = (done ++ [q]) ++ qs := by rw [List.append_assoc]; rfl
    rw [e]
    refine blocks_inv qs (done ++ [q]) (blockPut l q.1 q.2) ?_ (fun kv hk => ?_) fun k => ?_
    · rw [put_keys]
      exact putS_nd h1
    · have pl : placesOf (done ++ [q]) kv.1 = placesOf done kv.1 ++ if q.1 = kv.1 then [q.2] else [] := by
        unfold placesOf
        rw [List.filter_append, List.map_append, List.filter_cons]
        by_cases hq : q.1 = kv.1
        · rw [decide_eq_true hq, if_pos rfl, if_pos hq]
          rfl
        · rw [decide_eq_false hq, if_neg Bool.false_ne_true, if_neg hq]
          rfl
      rw [pl]
      rcases blockPut_mem kv hk with ⟨g1, g2⟩ | ⟨s, g1, g2⟩ | ⟨g1, g2⟩
      · rw [if_neg (fun z => g2 z.symm), List.append_nil]
        exact h2 kv g1
      · obtain ⟨e1, e2⟩ := h2 _ g1
        rw [g2]
        show s ++ [q.2] = _ ∧ s ++ [q.2] ≠ []
        rw [if_pos rfl, ← e1]
        exact ⟨rfl, by simp⟩
      · rw [g1]
        show [q.2] = _ ∧ [q.2] ≠ []
        rw [if_pos rfl]
        have : placesOf done q.1 = [] := by
          unfold placesOf
          rw [List.map_eq_nil_iff, List.filter_eq_nil_iff]
          intro x hx hd
          exact g2 ((h3 q.1).mpr ⟨x, hx, of_decide_eq_true hd⟩)
        rw [this]
        exact ⟨rfl, by simp⟩
    · rw [put_keys, putS_mem, h3 k]
      constructor
      · rintro (⟨x, hx, e⟩ | e)
        · exact ⟨x, List.mem_append.mpr (.inl hx), e⟩
        · exact ⟨q, List.mem_append.mpr (.inr List.mem_cons_self), e.symm⟩
      · rintro ⟨x, hx, e⟩
        rcases List.mem_append.mp hx with hx | hx
        · exact .inl ⟨x, hx, e⟩
        · rw [List.mem_singleton.mp hx] at e
          exact .inr e.symm
def keyed (tabs : List Tab) (rows : List Row) : List (Row × Nat) := rows.zipIdx.map fun q => (keyOf tabs q.1, q.2)
theorem blocksK_eq (tabs : List Tab) (rows : List Row) : blocksK tabs rows = blocksTo (keyed tabs rows) [] := by
  unfold blocksK blocksTo keyed
  rw [List.foldl_map]
theorem blocksK_ok (tabs : List Tab) (rows : List Row) : ((blocksK tabs rows).map (·.1)).Nodup ∧ (∀ kv ∈ blocksK tabs rows, kv.2 = placesOf (keyed tabs rows) kv.1 ∧ kv.2 ≠ []) ∧ ∀ k, k ∈ (blocksK tabs rows).map (·.1) ↔ ∃ q ∈ keyed tabs rows, q.1 = k := by
  rw [blocksK_eq]
  exact blocks_inv (keyed tabs rows) [] [] List.Pairwise.nil (fun kv h => nomatch h) fun k => ⟨(fun h => nomatch h), fun ⟨q, hq, _⟩ => nomatch hq⟩
theorem keyed_mem {tabs : List Tab} {rows : List Row} {q : Row × Nat} : q ∈ keyed tabs rows ↔ q.2 < rows.length ∧ q.1 = keyOf tabs (rowAt rows q.2) := by
  unfold keyed
  rw [List.mem_map]
  constructor
  · rintro ⟨p, hp, rfl⟩
    have hp := List.mem_zipIdx_iff_getElem?.mp hp
    refine ⟨(List.getElem?_eq_some_iff.mp hp).1, ?_⟩
    show keyOf tabs p.1 = keyOf tabs (rowAt rows p.2)
    rw [rowAt, List.getD_eq_getElem?_getD, hp]
    rfl
  · rintro ⟨h1, h2⟩
    refine ⟨(rowAt rows q.2, q.2), List.mem_zipIdx_iff_getElem?.mpr ?_, ?_⟩
    · show rows[q.2]? = some (rowAt rows q.2)
      rw [rowAt, List.getD_eq_getElem?_getD, List.getElem?_eq_getElem h1]
      rfl
    · cases q
      simp only [Prod.mk.injEq, and_true]
      exact h2.symm
/-- a place stands in the block of its key -/
theorem block_mem {tabs : List Tab} {rows : List Row} {b : List Nat} (h : b ∈ blocksV tabs rows) : b ≠ [] ∧ ∃ k, (k, b) ∈ blocksK tabs rows ∧ ∀ i, i ∈ b ↔ i < rows.length ∧ keyOf tabs (rowAt rows i) = k := by
  obtain ⟨kv, hk, rfl⟩ := List.mem_map.mp h
  obtain ⟨_, h2, _⟩ := blocksK_ok tabs rows
  obtain ⟨e1, e2⟩ := h2 kv hk
  refine ⟨e2, kv.1, hk, fun i => ?_⟩
  rw [e1]
  unfold placesOf
  rw [List.mem_map]
  constructor
  · rintro ⟨q, hq, rfl⟩
    obtain ⟨h3, h4⟩ := List.mem_filter.mp hq
    obtain ⟨h5, h6⟩ := keyed_mem.mp h3
    exact ⟨h5, by rw [← h6]; exact of_decide_eq_true h4⟩
  · rintro ⟨h3, h4⟩
    exact ⟨(kv.1, i), List.mem_filter.mpr ⟨keyed_mem.mpr ⟨h3, h4.symm⟩, decide_eq_true rfl⟩, rfl⟩
theorem block_lt {tabs : List Tab} {rows : List Row} {b : List Nat} (h : b ∈ blocksV tabs rows) : ∀ i ∈ b, i < rows.length := fun i hi => by
  obtain ⟨_, k, _, h2⟩ := block_mem h
  exact ((h2 i).mp hi).1
theorem blocks_len (tabs : List Tab) (rows : List Row) : (blocksV tabs rows).length ≤ rows.length := by
  have go : ∀ (qs : List (Row × Nat)) (l : List (Row × List Nat)), (blocksTo qs l).length ≤ l.length + qs.length := by
    intro qs
    induction qs with
    | nil => exact fun l => Nat.le_refl _
    | cons q qs ih =>
      intro l
      have h1 := ih (blockPut l q.1 q.2)
      have h2 : ((blockPut l q.1 q.2).map (·.1)).length ≤ (l.map (·.1)).length + 1 := by
        rw [put_keys]
        exact putS_len
      rw [List.length_map, List.length_map] at h2
      have h1 : (blocksTo (q :: qs) l).length ≤ _ := h1
      rw [List.length_cons]
      omega
  have z := go (keyed tabs rows) []
  unfold blocksV
  rw [List.length_map, blocksK_eq]
  unfold keyed at z
  rw [List.length_map, List.length_zipIdx, List.length_nil, Nat.zero_add] at z
  exact z
theorem best_mem (rows : List Row) (t c : Nat) (sign : Int) : ∀ (b : List Nat) (f : Nat), b.foldl (fun found i => if sign * worthV rows t c found < sign * worthV rows t c i then i else found) f = f ∨ b.foldl (fun found i => if sign * worthV rows t c found < sign * worthV rows t c i then i else found) f ∈ b
  | [], f => .inl rfl
  | x :: b, f => by
    rw [List.foldl_cons]
    rcases best_mem rows t c sign b (if sign * worthV rows t c f < sign * worthV rows t c x then x else f) with h | h
    · rw [h]
      split
      · exact .inr List.mem_cons_self
      · exact .inl rfl
    · exact .inr (List.mem_cons_of_mem _ h)
theorem bestV_mem {rows : List Row} {t c : Nat} {sign : Int} {b : List Nat} (h : b ≠ []) : bestV rows t c sign b ∈ b := by
  unfold bestV
  cases b with
  | nil => exact absurd rfl h
  | cons x r =>
    rcases best_mem rows t c sign (x :: r) ((x :: r).headD 0) with h | h
    · rw [h]
      exact List.mem_cons_self
    · exact h
theorem bestRows_in {B : Book} {t c : Nat} {sign : Int} : (∀ i ∈ bestRows B t c sign, i < B.rows.length) ∧ (bestRows B t c sign).length ≤ B.rows.length := by
  refine ⟨fun i hi => ?_, ?_⟩
  · obtain ⟨b, hb, rfl⟩ := List.mem_map.mp (sortN_mem.mp hi)
    exact block_lt hb _ (bestV_mem (block_mem hb).1)
  · unfold bestRows
    rw [sortN_len, List.length_map]
    exact blocks_len _ _
end Md
namespace Md
open PySem
/-! ### which free sets are found -/
theorem freePut_iff {ps : List (Nat × Nat)} {pre : List Nat} {i : Nat} {more : List (List Nat)} {free y : List Nat} : y ∈ freePut ps pre i more free ↔
    y ∈ more ∨ ((restV ps i free).length < free.length ∧ y = free) ∨ ((decide ((restV ps i free).length = free.length) || greatestV (restV ps i free ++ [i]) pre ps) = true ∧ y = restV ps i free ++ [i]) := by
  unfold freePut
  simp only
  by_cases h1 : (restV ps i free).length < free.length <;> by_cases h2 : (decide ((restV ps i free).length = free.length) || greatestV (restV ps i free ++ [i]) pre ps) = true
  · rw [if_pos h1, if_pos h2, putS_mem, putS_mem]
    constructor
    · rintro ((h | h) | h)
      · exact .inl h
      · exact .inr (.inl ⟨h1, h⟩)
      · exact .inr (.inr ⟨h2, h⟩)
    · rintro (h | ⟨_, h⟩ | ⟨_, h⟩)
      · exact .inl (.inl h)
      · exact .inl (.inr h)
      · exact .inr h
  · rw [if_pos h1, if_neg h2, putS_mem]
    constructor
    · rintro (h | h)
      · exact .inl h
      · exact .inr (.inl ⟨h1, h⟩)
    · rintro (h | ⟨_, h⟩ | ⟨h3, _⟩)
      · exact .inl h
      · exact .inr h
      · exact absurd h3 h2
  · rw [if_neg h1, if_pos h2, putS_mem]
    constructor
    · rintro (h | h)
      · exact .inl h
      · exact .inr (.inr ⟨h2, h⟩)
    · rintro (h | ⟨h3, _⟩ | ⟨_, h⟩)
      · exact .inl h
      · exact absurd h3 h1
      · exact .inr h
  · rw [if_neg h1, if_neg h2]
    constructor
    · exact .inl
    · rintro (h | ⟨h3, _⟩ | ⟨h3, _⟩)
      · exact h
      · exact absurd h3 h1
      · exact absurd h3 h2
theorem freeStep_iff {ps : List (Nat × Nat)} {pre : List Nat} {i : Nat} {y : List Nat} : ∀ {found more : List (List Nat)}, y ∈ found.foldl (freePut ps pre i) more ↔
    y ∈ more ∨ ∃ free ∈ found, ((restV ps i free).length < free.length ∧ y = free) ∨ ((decide ((restV ps i free).length = free.length) || greatestV (restV ps i free ++ [i]) pre ps) = true ∧ y = restV ps i free ++ [i])
  | [], more => ⟨.inl, fun h => h.elim id fun ⟨f, hf, _⟩ => nomatch hf⟩
  | f :: fs, more => by
    rw [List.foldl_cons, freeStep_iff (found := fs), freePut_iff]
    constructor
    · rintro ((h | h) | ⟨g, hg, h⟩)
      · exact .inl h
      · exact .inr ⟨f, List.mem_cons_self, h⟩
      · exact .inr ⟨g, List.mem_cons_of_mem _ hg, h⟩
    · rintro (h | ⟨g, hg, h⟩)
      · exact .inl (.inl h)
      · rcases List.mem_cons.mp hg with e | hg
        · rw [e] at h
          exact .inl (.inr h)
        · exact .inr ⟨g, hg, h⟩
section
variable {κ : Type} [DecidableEq κ] {K : Nat → κ}
/-- one of each key of P -/
structure Tr (K : Nat → κ) (P f : List Nat) : Prop where
  sub : f.Sublist P
  inj : ∀ a ∈ f, ∀ b ∈ f, K a = K b → a = b
  all : ∀ i ∈ P, ∃ j ∈ f, K j = K i
theorem filter_mem_eq {P g : List Nat} (h : g.Sublist P) (nd : P.Nodup) : P.filter (fun x => decide (x ∈ g)) = g := by
  induction h with
  | slnil => rfl
  | @cons l₁ l₂ a h ih =>
    have nd' := List.nodup_cons.mp nd
    rw [List.filter_cons, decide_eq_false (fun z => nd'.1 (h.subset z)), if_neg Bool.false_ne_true]
    exact ih nd'.2
  | @cons_cons l₁ l₂ a h ih =>
    have nd' := List.nodup_cons.mp nd
    rw [List.filter_cons, decide_eq_true List.mem_cons_self, if_pos rfl]
    congr 1
    rw [← ih nd'.2]
    refine List.filter_congr fun x hx => decide_eq_decide.mpr ?_
    rw [ih nd'.2]
    exact ⟨fun z => (List.mem_cons.mp z).resolve_left fun e => nd'.1 (by rw [← e]; exact hx), fun z => List.mem_cons_of_mem _ z⟩
theorem sub_last {P f : List Nat} {i : Nat} (h : f.Sublist (P ++ [i])) (hi : i ∈ f) (hp : i ∉ P) : ∃ g, f = g ++ [i] ∧ g.Sublist P := by
  obtain ⟨g, t, e, h1, h2⟩ := List.sublist_append_iff.mp h
  have ht : t = [i] := by
    cases h2 with
    | cons _ h3 =>
      have e3 : t = [] := List.sublist_nil.mp h3
      rw [e3, List.append_nil] at e
      rw [e] at hi
      exact absurd (h1.subset hi) hp
    | cons_cons _ h3 =>
      rw [List.sublist_nil.mp h3]
  rw [ht] at e
  exact ⟨g, e, h1⟩
theorem sub_first {P f : List Nat} {i : Nat} (h : f.Sublist (P ++ [i])) (hi : i ∉ f) : f.Sublist P := by
  obtain ⟨g, t, e, h1, h2⟩ := List.sublist_append_iff.mp h
  have ht : t = [] := by
    cases h2 with
    | cons _ h3 => exact List.sublist_nil.mp h3
    | cons_cons _ h3 => exact absurd (by rw [e]; exact List.mem_append.mpr (.inr List.mem_cons_self)) hi
  rw [e, ht, List.append_nil]
  exact h1
theorem filter_full {f : List Nat} {p : Nat → Bool} (h : ∀ x ∈ f, p x = true) : f.filter p = f := List.filter_eq_self.mpr h
theorem filter_short {f : List Nat} {p : Nat → Bool} {x : Nat} (hx : x ∈ f) (h : p x = false) : (f.filter p).length < f.length := by
  have h1 : (f.filter p).length ≤ f.length := List.length_filter_le ..
  have h2 : (f.filter p).length ≠ f.length := fun e => by
    have := List.length_filter_eq_length_iff.mp e x hx
    rw [h] at this
    cases this
  omega
theorem tr_step {ps : List (Nat × Nat)} {P : List Nat} {i : Nat} (nd : (P ++ [i]).Nodup) (hn : ∀ a ∈ P ++ [i], ∀ b ∈ P ++ [i], nearV ps a b = decide (a ≠ b ∧ K a = K b)) {found : List (List Nat)} (hf : ∀ f, f ∈ found ↔ Tr K P f) (y : List Nat) :
    y ∈ freeStep ps P i found ↔ Tr K (P ++ [i]) y := by
  have hiP : i ∉ P := fun z => (List.nodup_append.mp nd).2.2 i z i List.mem_cons_self rfl
  have ndP : P.Nodup := (List.nodup_append.mp nd).1
  have hmi : i ∈ P ++ [i] := List.mem_append.mpr (.inr List.mem_cons_self)
  have hmP : ∀ x ∈ P, x ∈ P ++ [i] := fun x hx => List.mem_append.mpr (.inl hx)
  have near : ∀ x ∈ P, nearV ps i x = decide (K i = K x) := fun x hx => by
    rw [hn i hmi x (hmP x hx)]
    exact decide_eq_decide.mpr ⟨fun h => h.2, fun h => ⟨fun e => hiP (by rw [e]; exact hx), h⟩⟩
  have rest : ∀ f, f.Sublist P → restV ps i f = f.filter fun x => !decide (K i = K x) := fun f hs => List.filter_congr fun x hx => by rw [near x (hs.subset hx)]
  have step : y ∈ freeStep ps P i found ↔ ∃ free ∈ found, ((restV ps i free).length < free.length ∧ y = free) ∨ ((decide ((restV ps i free).length = free.length) || greatestV (restV ps i free ++ [i]) P ps) = true ∧ y = restV ps i free ++ [i]) := by
    unfold freeStep
    rw [freeStep_iff]
    exact ⟨fun h => h.resolve_left (fun z => nomatch z), .inr⟩
  rw [step]
  constructor
  · rintro ⟨free, hfree, h⟩
    obtain ⟨s1, s2, s3⟩ := (hf free).mp hfree
    have hr := rest free s1
    rcases h with ⟨h1, rfl⟩ | ⟨_, rfl⟩
    · refine ⟨s1.trans (List.sublist_append_left _ _), s2, fun x hx => ?_⟩
      rcases List.mem_append.mp hx with hx | hx
      · exact s3 x hx
      · rw [List.mem_singleton.mp hx]
        rw [hr] at h1
        have : ¬ ∀ x ∈ y, (!decide (K i = K x)) = true := fun z => by
          rw [filter_full z] at h1
          omega
        obtain ⟨x, hx⟩ := Classical.not_forall.mp this
        obtain ⟨hx1, hx2⟩ := Classical.not_imp.mp hx
        have hx2 : K i = K x := by simpa using hx2
        exact ⟨x, hx1, hx2.symm⟩
    · rw [hr]
      have mem : ∀ x, x ∈ free.filter (fun x => !decide (K i = K x)) ↔ x ∈ free ∧ K i ≠ K x := fun x => by
        rw [List.mem_filter]
        simp
      refine ⟨((List.filter_sublist).trans s1).append (List.Sublist.refl _), fun a ha b hb e => ?_, fun x hx => ?_⟩
      · rcases List.mem_append.mp ha with ha | ha <;> rcases List.mem_append.mp hb with hb | hb
        · exact s2 a ((mem a).mp ha).1 b ((mem b).mp hb).1 e
        · rw [List.mem_singleton.mp hb] at e
          exact absurd e.symm ((mem a).mp ha).2
        · rw [List.mem_singleton.mp ha] at e
          exact absurd e ((mem b).mp hb).2
        · rw [List.mem_singleton.mp ha, List.mem_singleton.mp hb]
      · by_cases hk : K i = K x
        · exact ⟨i, List.mem_append.mpr (.inr List.mem_cons_self), hk⟩
        · rcases List.mem_append.mp hx with hx | hx
          · obtain ⟨j, hj, e⟩ := s3 x hx
            exact ⟨j, List.mem_append.mpr (.inl ((mem j).mpr ⟨hj, by rw [e]; exact hk⟩)), e⟩
          · exact absurd (by rw [List.mem_singleton.mp hx]) hk
  · rintro ⟨s1, s2, s3⟩
    by_cases hi : i ∈ y
    · obtain ⟨g, rfl, hg⟩ := sub_last s1 hi hiP
      have gk : ∀ x ∈ g, K i ≠ K x := fun x hx e => hiP (by
        rw [s2 i hi x (List.mem_append.mpr (.inl hx)) e]
        exact hg.subset hx)
      by_cases hc : ∃ j ∈ P, K j = K i
      · obtain ⟨j, hj, ej⟩ := hc
        let free := P.filter fun x => decide (x ∈ g ∨ x = j)
        have memf : ∀ x, x ∈ free ↔ x ∈ P ∧ (x ∈ g ∨ x = j) := fun x => by
          show x ∈ P.filter (fun x => decide (x ∈ g ∨ x = j)) ↔ _
          rw [List.mem_filter, decide_eq_true_iff]
        have sf : free.Sublist P := List.filter_sublist
        have tf : Tr K P free := by
          refine ⟨sf, fun a ha b hb e => ?_, fun x hx => ?_⟩
          · obtain ⟨_, ha⟩ := (memf a).mp ha
            obtain ⟨_, hb⟩ := (memf b).mp hb
            rcases ha with ha | ha <;> rcases hb with hb | hb
            · exact s2 a (List.mem_append.mpr (.inl ha)) b (List.mem_append.mpr (.inl hb)) e
            · rw [hb, ej] at e
              exact absurd e.symm (gk a ha)
            · rw [ha, ej] at e
              exact absurd e (gk b hb)
            · rw [ha, hb]
          · obtain ⟨z, hz, e⟩ := s3 x (hmP x hx)
            rcases List.mem_append.mp hz with hz | hz
            · exact ⟨z, (memf z).mpr ⟨hg.subset hz, .inl hz⟩, e⟩
            · rw [List.mem_singleton.mp hz] at e
              exact ⟨j, (memf j).mpr ⟨hj, .inr rfl⟩, ej.trans e⟩
        have hrest : restV ps i free = g := by
          rw [rest free sf]
          show (P.filter fun x => decide (x ∈ g ∨ x = j)).filter _ = g
          rw [List.filter_filter]
          rw [show (P.filter fun x => (!decide (K i = K x)) && decide (x ∈ g ∨ x = j)) = P.filter fun x => decide (x ∈ g) from List.filter_congr fun x hx => ?_]
          · exact filter_mem_eq hg ndP
          · rw [Bool.eq_iff_iff, Bool.and_eq_true, Bool.not_eq_true', decide_eq_false_iff_not, decide_eq_true_iff, decide_eq_true_iff]
            constructor
            · rintro ⟨h1, h2 | h2⟩
              · exact h2
              · rw [h2] at h1
                exact absurd ej.symm h1
            · exact fun h => ⟨gk x h, .inl h⟩
        refine ⟨free, (hf free).mpr tf, .inr ⟨?_, by rw [hrest]⟩⟩
        rw [hrest, Bool.or_eq_true]
        right
        unfold greatestV
        rw [List.all_eq_true]
        intro x hx
        rw [Bool.or_eq_true, decide_eq_true_iff, List.any_eq_true]
        obtain ⟨z, hz, e⟩ := s3 x (hmP x hx)
        by_cases hxz : x = z
        · left
          rw [hxz]
          exact hz
        · right
          refine ⟨z, hz, ?_⟩
          rw [hn x (hmP x hx) z (s1.subset hz), decide_eq_true_iff]
          exact ⟨hxz, e.symm⟩
      · have tg : Tr K P g := by
          refine ⟨hg, fun a ha b hb e => s2 a (List.mem_append.mpr (.inl ha)) b (List.mem_append.mpr (.inl hb)) e, fun x hx => ?_⟩
          obtain ⟨z, hz, e⟩ := s3 x (hmP x hx)
          rcases List.mem_append.mp hz with hz | hz
          · exact ⟨z, hz, e⟩
          · rw [List.mem_singleton.mp hz] at e
            exact absurd ⟨x, hx, e.symm⟩ hc
        have hrest : restV ps i g = g := by
          rw [rest g hg]
          refine filter_full fun x hx => ?_
          rw [decide_eq_false (gk x hx)]
          rfl
        refine ⟨g, (hf g).mpr tg, .inr ⟨?_, by rw [hrest]⟩⟩
        rw [hrest, decide_eq_true rfl]
        rfl
    · have sy := sub_first s1 hi
      have ty : Tr K P y := ⟨sy, s2, fun x hx => s3 x (hmP x hx)⟩
      refine ⟨y, (hf y).mpr ty, .inl ⟨?_, rfl⟩⟩
      obtain ⟨z, hz, e⟩ := s3 i hmi
      rw [rest y sy]
      exact filter_short hz (by rw [decide_eq_true e.symm]; rfl)
/-- just the sets with one of each key are found -/
theorem free_char {ps : List (Nat × Nat)} {R : List Nat} (nd : R.Nodup) (hn : ∀ a ∈ R, ∀ b ∈ R, nearV ps a b = decide (a ≠ b ∧ K a = K b)) : ∀ k, k ≤ R.length → ∀ f, f ∈ freeUpTo ps R k ↔ Tr K (R.take k) f
  | 0, _, f => by
    have e : freeUpTo ps R 0 = [[]] := rfl
    rw [e, List.mem_singleton]
    constructor
    · rintro rfl
      exact ⟨List.nil_sublist _, fun a ha => (nomatch ha), fun x hx => by
        have hx : x ∈ ([] : List Nat) := hx
        cases hx⟩
    · rintro ⟨h, _, _⟩
      exact List.sublist_nil.mp h
  | k + 1, h, f => by
    have e : freeUpTo ps R (k + 1) = freeStep ps (R.take k) R[k] (freeUpTo ps R k) := by
      unfold freeUpTo
      rw [zip_snoc (by omega), freeTo_snoc]
    have e2 : R.take (k + 1) = R.take k ++ [R[k]] := by
      rw [List.take_succ, List.getElem?_eq_getElem (by omega)]
      rfl
    have sub : (R.take k ++ [R[k]]).Sublist R := by
      rw [← e2]
      exact List.take_sublist _ _
    rw [e, e2]
    exact tr_step (sub.nodup nd) (fun a ha b hb => hn a (sub.subset ha) b (sub.subset hb)) (free_char nd hn k (by omega)) f
end
end Md
namespace Md
open PySem
/-! ### books whose rows clash by their keys alone -/
structure Calm (B : Book) : Prop where
  held : ∀ rows, heldV B rows = rows
  clash : ∀ p, p ∈ clashesV B ↔ p.1 < p.2 ∧ p.2 < B.rows.length ∧ keyAt B p.1 = keyAt B p.2
theorem any_none {α : Type} {l : List α} {f : α → Bool} (h : ∀ x ∈ l, f x = false) : l.any f = false := List.any_eq_false.mpr fun x hx => by rw [h x hx]; exact Bool.false_ne_true
theorem calm_of {B : Book} (h : ∀ r ∈ B.rules, (∀ row, barsV r row = false) ∧ (∀ a b, partsV r a b = false) ∧ ∀ row rows, lacksV r row rows = false) : Calm B := by
  have h0 : ∀ rows, left0 B rows = rows := fun rows => filter_full fun i _ => by rw [any_none fun r hr => (h r hr).1 _]; rfl
  have h1 : ∀ rows, leftStep B rows = rows := fun rows => filter_full fun i _ => by rw [any_none fun r hr => (h r hr).2.2 _ _]; rfl
  have hh : ∀ rows, heldV B rows = rows := fun rows => by
    unfold heldV
    rw [h0, heldGo, h1, if_pos rfl]
  refine ⟨hh, fun p => ?_⟩
  rw [clash_mem, hh]
  constructor
  · rintro ⟨b, hb, rfl⟩
    obtain ⟨i, hi, hb⟩ := List.mem_flatMap.mp hb
    obtain ⟨j, hj, hb⟩ := List.mem_flatMap.mp hb
    rcases List.mem_append.mp hb with hb | hb
    · split at hb
      · rename_i e
        rw [List.mem_singleton.mp hb]
        rw [pairKeyB, Bool.and_eq_true, decide_eq_true_iff, decide_eq_true_iff] at e
        exact ⟨e.1, List.mem_range.mp hj, e.2⟩
      · cases hb
    · obtain ⟨q, hq, hb⟩ := List.mem_flatMap.mp hb
      have hr := (h q.1 (List.mem_of_getElem? (List.mem_zipIdx_iff_getElem?.mp hq))).2.1
      rw [pairRuleB, hr, Bool.and_false] at hb
      cases hb
  · rintro ⟨g1, g2, g3⟩
    refine ⟨⟨"key", p.1, p.2, none⟩, List.mem_flatMap.mpr ⟨p.1, List.mem_range.mpr (by omega), List.mem_flatMap.mpr ⟨p.2, List.mem_range.mpr g2, List.mem_append.mpr (.inl ?_)⟩⟩, rfl⟩
    rw [pairKeyB, decide_eq_true g1, decide_eq_true g3]
    exact List.mem_singleton.mpr rfl
theorem calm_plain {B : Book} (h : B.rules = []) : Calm B := calm_of fun r hr => by
  rw [h] at hr
  cases hr
theorem calm_idle {B : Book} {r : Rule} (h : B.rules = [r]) (hi : ∃ t a b, r = .never t [⟨.is (.z a), "same", .is (.z b)⟩] ∧ a ≠ b) : Calm B := calm_of fun r' hr => by
  rw [h] at hr
  obtain ⟨t, a, b, e, hab⟩ := hi
  rw [List.mem_singleton.mp hr, e]
  refine ⟨fun row => ?_, fun _ _ => rfl, fun _ _ => rfl⟩
  have ht : testV [row] ⟨.is (.z a), "same", .is (.z b)⟩ = false := by
    rw [testV, if_pos rfl]
    exact decide_eq_false fun z => hab (Cell.z.inj z)
  show (decide (row.t = t) && [(⟨.is (.z a), "same", .is (.z b)⟩ : Test)].all (testV [row])) = false
  rw [List.all_cons, ht, Bool.false_and, Bool.and_false]
section
variable {B : Book}
theorem near_calm (C : Calm B) {a b : Nat} (ha : a < B.rows.length) (hb : b < B.rows.length) : nearV (clashesV B) a b = decide (a ≠ b ∧ keyAt B a = keyAt B b) := by
  unfold nearV
  rw [Bool.eq_iff_iff, decide_eq_true_iff, decide_eq_true_iff, C.clash]
  show min a b < max a b ∧ max a b < B.rows.length ∧ keyAt B (min a b) = keyAt B (max a b) ↔ _
  by_cases h : a ≤ b
  · rw [Nat.min_eq_left h, Nat.max_eq_right h]
    exact ⟨fun ⟨h1, _, h3⟩ => ⟨by omega, h3⟩, fun ⟨h1, h2⟩ => ⟨by omega, hb, h2⟩⟩
  · rw [Nat.min_eq_right (by omega), Nat.max_eq_left (by omega)]
    exact ⟨fun ⟨h1, _, h3⟩ => ⟨by omega, h3.symm⟩, fun ⟨h1, h2⟩ => ⟨by omega, ha, h2.symm⟩⟩
theorem rows_calm (C : Calm B) {i : Nat} : i ∈ rowsV (clashesV B) ↔ i < B.rows.length ∧ ∃ j, j < B.rows.length ∧ j ≠ i ∧ keyAt B j = keyAt B i := by
  rw [rowsV_mem]
  constructor
  · rintro ⟨p, hp, h⟩
    obtain ⟨h1, h2, h3⟩ := (C.clash p).mp hp
    rcases h with h | h
    · rw [← h]
      exact ⟨by omega, p.2, h2, by omega, h3.symm⟩
    · rw [← h]
      exact ⟨h2, p.1, by omega, by omega, h3⟩
  · rintro ⟨h1, j, h2, h3, h4⟩
    by_cases h : i < j
    · exact ⟨(i, j), (C.clash _).mpr ⟨h, h2, h4.symm⟩, .inl rfl⟩
    · exact ⟨(j, i), (C.clash _).mpr ⟨by show j < i; omega, h1, h4⟩, .inr rfl⟩
/-- one row of each key, in order -/
structure Full (B : Book) (s : List Nat) : Prop where
  ord : s.Pairwise (· < ·)
  lt : ∀ i ∈ s, i < B.rows.length
  inj : ∀ a ∈ s, ∀ b ∈ s, keyAt B a = keyAt B b → a = b
  all : ∀ i, i < B.rows.length → ∃ j ∈ s, keyAt B j = keyAt B i
theorem sortN_pair (l : List Nat) : (sortN l).Pairwise (· ≤ ·) := by
  have h := List.pairwise_mergeSort (le := fun a b : Nat => decide (a ≤ b)) (fun a b c h1 h2 => by simp at *; omega) (fun a b => by simp; omega) l
  exact h.imp fun h => by simpa using h
theorem sortN_lt {l : List Nat} (h : l.Nodup) : (sortN l).Pairwise (· < ·) := by
  have hn : (sortN l).Nodup := (List.mergeSort_perm l _).nodup_iff.mpr h
  exact ((sortN_pair l).and hn).imp fun ⟨h1, h2⟩ => by omega
theorem lt_nd {l : List Nat} (h : l.Pairwise (· < ·)) : l.Nodup := h.imp fun h => by omega
theorem ord_uniq {s u : List Nat} (h1 : s.Pairwise (· < ·)) (h2 : u.Pairwise (· < ·)) (h : ∀ x, x ∈ s ↔ x ∈ u) : s = u :=
  ((List.perm_ext_iff_of_nodup (lt_nd h1) (lt_nd h2)).mpr h).eq_of_pairwise (fun a b _ _ p q => by omega) (h1.imp fun h => Nat.le_of_lt h) (h2.imp fun h => Nat.le_of_lt h)
theorem others_calm (C : Calm B) {i : Nat} : i ∈ othersV B (rowsV (clashesV B)) ↔ i < B.rows.length ∧ i ∉ rowsV (clashesV B) := by
  unfold othersV
  rw [C.held, List.mem_filter, allRows, List.mem_range, Bool.not_eq_true', decide_eq_false_iff_not]
theorem some_calm (C : Calm B) (s : List Nat) : s ∈ someV B ↔ Full B s := by
  have hlt : ∀ a ∈ rowsV (clashesV B), a < B.rows.length := fun a ha => ((rows_calm C).mp ha).1
  have hfree : ∀ f, f ∈ freeV (rowsV (clashesV B)) (clashesV B) ↔ Tr (keyAt B) (rowsV (clashesV B)) f := fun f => by
    rw [freeV_eq]
    have z := free_char (K := keyAt B) (rowsV_nd (clashesV B)) (fun a ha b hb => near_calm C (hlt a ha) (hlt b hb)) _ (Nat.le_refl _) f
    rwa [List.take_length] at z
  unfold someV
  rw [List.mem_map]
  constructor
  · rintro ⟨f, hf, rfl⟩
    obtain ⟨s1, s2, s3⟩ := (hfree f).mp hf
    obtain ⟨nd, lt⟩ := free_others hf
    rw [C.held]
    have mem : ∀ x, x ∈ sortN (f ++ othersV B (rowsV (clashesV B))) ↔ x ∈ f ∨ (x < B.rows.length ∧ x ∉ rowsV (clashesV B)) := fun x => by rw [sortN_mem, List.mem_append, others_calm C]
    have alone : ∀ a b, a < B.rows.length → a ∉ rowsV (clashesV B) → b < B.rows.length → keyAt B a = keyAt B b → a = b := fun a b h1 h2 h3 e => Classical.byContradiction fun hne => h2 ((rows_calm C).mpr ⟨h1, b, h3, fun z => hne z.symm, e.symm⟩)
    refine ⟨sortN_lt nd, fun i hi => lt i (sortN_mem.mp hi), fun a ha b hb e => ?_, fun i hi => ?_⟩
    · have la := lt a (sortN_mem.mp ha)
      have lb := lt b (sortN_mem.mp hb)
      rcases (mem a).mp ha with h1 | ⟨_, h1⟩
      · rcases (mem b).mp hb with h2 | ⟨_, h2⟩
        · exact s2 a h1 b h2 e
        · exact (alone b a lb h2 la e.symm).symm
      · exact alone a b la h1 lb e
    · by_cases h : i ∈ rowsV (clashesV B)
      · obtain ⟨j, hj, e⟩ := s3 i h
        exact ⟨j, (mem j).mpr (.inl hj), e⟩
      · exact ⟨i, (mem i).mpr (.inr ⟨hi, h⟩), rfl⟩
  · rintro ⟨h1, h2, h3, h4⟩
    let f := (rowsV (clashesV B)).filter fun x => decide (x ∈ s)
    have memf : ∀ x, x ∈ f ↔ x ∈ rowsV (clashesV B) ∧ x ∈ s := fun x => by
      show x ∈ (rowsV (clashesV B)).filter (fun x => decide (x ∈ s)) ↔ _
      rw [List.mem_filter, decide_eq_true_iff]
    have tf : Tr (keyAt B) (rowsV (clashesV B)) f := by
      refine ⟨List.filter_sublist, fun a ha b hb e => h3 a ((memf a).mp ha).2 b ((memf b).mp hb).2 e, fun i hi => ?_⟩
      obtain ⟨j, hj, e⟩ := h4 i (hlt i hi)
      refine ⟨j, (memf j).mpr ⟨?_, hj⟩, e⟩
      by_cases hij : i = j
      · rw [← hij]
        exact hi
      · exact (rows_calm C).mpr ⟨h2 j hj, i, hlt i hi, hij, e.symm⟩
    have hf := (hfree f).mpr tf
    obtain ⟨nd, lt⟩ := free_others hf
    refine ⟨f, hf, ?_⟩
    rw [C.held]
    refine ord_uniq (sortN_lt nd) h1 fun x => ?_
    rw [sortN_mem, List.mem_append, others_calm C, memf]
    constructor
    · rintro (⟨_, h⟩ | ⟨g1, g2⟩)
      · exact h
      · obtain ⟨j, hj, e⟩ := h4 x g1
        by_cases hxj : x = j
        · rw [hxj]
          exact hj
        · exact absurd ((rows_calm C).mpr ⟨g1, j, h2 j hj, fun z => hxj z.symm, e⟩) g2
    · intro h
      by_cases hr : x ∈ rowsV (clashesV B)
      · exact .inl ⟨hr, h⟩
      · exact .inr ⟨h2 x h, hr⟩
theorem full_sub {s u : List Nat} (h : Full B s) (g : Full B u) (hs : ∀ x ∈ s, x ∈ u) : s = u := ord_uniq h.ord g.ord fun x => ⟨hs x, fun hx => by
  obtain ⟨j, hj, e⟩ := h.all x (g.lt x hx)
  have := g.inj j (hs j hj) x hx e
  rw [← this]
  exact hj⟩
/-- the mended books: one row of each key -/
theorem mended_calm (C : Calm B) (s : List Nat) : s ∈ mendedV B ↔ Full B s := by
  unfold mendedV
  rw [List.mem_mergeSort]
  constructor
  · exact fun h => (some_calm C s).mp (greatest_in h)
  · intro h
    have hs := (some_calm C s).mpr h
    have hk : bitsV s ∈ (byBits (someV B)).map (·.1) := byBits_keys.mpr ⟨s, hs, rfl⟩
    obtain ⟨kv, hkv, e⟩ := List.mem_map.mp hk
    obtain ⟨e1, e2⟩ := byBits_in hkv
    have f2 := (some_calm C kv.2).mp e2
    have es : kv.2 = s := ord_uniq f2.ord h.ord (bits_iff.mp (e1.symm.trans e))
    refine List.mem_map.mpr ⟨kv, List.mem_filter.mpr ⟨hkv, ?_⟩, es⟩
    rw [Bool.not_eq_true', underB, List.any_eq_false]
    intro y hy hu
    rw [Bool.and_eq_true, Bool.not_eq_true', decide_eq_false_iff_not, decide_eq_true_iff] at hu
    obtain ⟨hne, hand⟩ := hu
    obtain ⟨r, hr, er⟩ := byBits_keys.mp hy
    rw [e, ← er] at hand hne
    have := full_sub h ((some_calm C r).mp hr) (under_iff.mp hand)
    rw [this] at hne
    exact hne rfl
end
end Md
namespace Md
open PySem
/-! ### sums -/
theorem perm_sum {l m : List Int} (h : l.Perm m) : l.sum = m.sum := by
  induction h with
  | nil => rfl
  | cons x _ ih => rw [List.sum_cons, List.sum_cons, ih]
  | swap x y l =>
    rw [List.sum_cons, List.sum_cons, List.sum_cons, List.sum_cons]
    omega
  | trans _ _ h1 h2 => exact h1.trans h2
theorem sumV_perm {rows : List Row} {l m : List Nat} {t c : Nat} (h : l.Perm m) : sumV rows l t c = sumV rows m t c := perm_sum (h.map _)
theorem best_go (w : Nat → Int) (s : Int) : ∀ (b : List Nat) (f : Nat), s * w f ≤ s * w (b.foldl (fun found i => if s * w found < s * w i then i else found) f) ∧ ∀ i ∈ b, s * w i ≤ s * w (b.foldl (fun found i => if s * w found < s * w i then i else found) f)
  | [], f => ⟨Int.le_refl _, fun i h => nomatch h⟩
  | x :: b, f => by
    rw [List.foldl_cons]
    obtain ⟨h1, h2⟩ := best_go w s b (if s * w f < s * w x then x else f)
    by_cases h : s * w f < s * w x
    · rw [if_pos h] at h1 h2 ⊢
      refine ⟨by omega, fun i hi => ?_⟩
      rcases List.mem_cons.mp hi with e | hi
      · rw [e]
        exact h1
      · exact h2 i hi
    · rw [if_neg h] at h1 h2 ⊢
      refine ⟨h1, fun i hi => ?_⟩
      rcases List.mem_cons.mp hi with e | hi
      · rw [e]
        omega
      · exact h2 i hi
theorem bestV_top {rows : List Row} {t c : Nat} {s : Int} {b : List Nat} : ∀ i ∈ b, s * worthV rows t c i ≤ s * worthV rows t c (bestV rows t c s b) := (best_go (worthV rows t c) s b (b.headD 0)).2
theorem block_at {B : Book} {kv : Row × List Nat} (h : kv ∈ blocksK B.tabs B.rows) : kv.2 ≠ [] ∧ ∀ i, i ∈ kv.2 ↔ i < B.rows.length ∧ keyAt B i = kv.1 := by
  obtain ⟨_, h2, _⟩ := blocksK_ok B.tabs B.rows
  obtain ⟨e1, e2⟩ := h2 kv h
  refine ⟨e2, fun i => ?_⟩
  rw [e1]
  unfold placesOf
  rw [List.mem_map]
  constructor
  · rintro ⟨q, hq, rfl⟩
    obtain ⟨h3, h4⟩ := List.mem_filter.mp hq
    obtain ⟨h5, h6⟩ := keyed_mem.mp h3
    exact ⟨h5, h6.symm.trans (of_decide_eq_true h4)⟩
  · rintro ⟨h3, h4⟩
    exact ⟨(kv.1, i), List.mem_filter.mpr ⟨keyed_mem.mpr ⟨h3, h4.symm⟩, decide_eq_true rfl⟩, rfl⟩
theorem block_of {B : Book} {i : Nat} (h : i < B.rows.length) : ∃ kv ∈ blocksK B.tabs B.rows, kv.1 = keyAt B i := by
  have z := ((blocksK_ok B.tabs B.rows).2.2 (keyAt B i)).mpr ⟨(keyAt B i, i), keyed_mem.mpr ⟨h, rfl⟩, rfl⟩
  obtain ⟨kv, h1, h2⟩ := List.mem_map.mp z
  exact ⟨kv, h1, h2⟩
/-- a choice of one row of each block -/
theorem choice_full {B : Book} (ch : Row × List Nat → Nat) (h : ∀ kv ∈ blocksK B.tabs B.rows, ch kv ∈ kv.2) : ((blocksK B.tabs B.rows).map ch).Nodup ∧ Full B (sortN ((blocksK B.tabs B.rows).map ch)) := by
  have hk : ∀ kv ∈ blocksK B.tabs B.rows, ch kv < B.rows.length ∧ keyAt B (ch kv) = kv.1 := fun kv hkv => ((block_at hkv).2 _).mp (h kv hkv)
  have nd : ((blocksK B.tabs B.rows).map ch).Nodup := by
    have z := (blocksK_ok B.tabs B.rows).1
    unfold List.Nodup at z ⊢
    rw [List.pairwise_map] at z ⊢
    refine z.imp_of_mem fun {a b} ha hb hne e => hne ?_
    rw [← (hk a ha).2, ← (hk b hb).2, e]
  refine ⟨nd, sortN_lt nd, fun i hi => ?_, fun a ha b hb e => ?_, fun i hi => ?_⟩
  · obtain ⟨kv, h1, rfl⟩ := List.mem_map.mp (sortN_mem.mp hi)
    exact (hk kv h1).1
  · obtain ⟨x, h1, rfl⟩ := List.mem_map.mp (sortN_mem.mp ha)
    obtain ⟨y, h2, rfl⟩ := List.mem_map.mp (sortN_mem.mp hb)
    rw [(hk x h1).2, (hk y h2).2] at e
    have z := (blocksK_ok B.tabs B.rows).1
    have hxy : x = y := by
      obtain ⟨i, hi, ei⟩ := List.mem_iff_getElem.mp h1
      obtain ⟨j, hj, ej⟩ := List.mem_iff_getElem.mp h2
      unfold List.Nodup at z
      rw [List.pairwise_map] at z
      have zz := List.pairwise_iff_getElem.mp z
      rcases Nat.lt_trichotomy i j with hij | hij | hij
      · exact absurd (by rw [ei, ej]; exact e) (zz i j hi hj hij)
      · subst hij
        exact ei.symm.trans ej
      · exact absurd (by rw [ei, ej]; exact e.symm) (zz j i hj hi hij)
    rw [hxy]
  · obtain ⟨kv, h1, h2⟩ := block_of hi
    exact ⟨ch kv, sortN_mem.mpr (List.mem_map.mpr ⟨kv, h1, rfl⟩), (hk kv h1).2.trans h2⟩
theorem best_full (B : Book) (t c : Nat) (s : Int) : Full B (bestRows B t c s) := by
  have z := (choice_full (B := B) (fun kv => bestV B.rows t c s kv.2) fun kv hkv => bestV_mem (block_at hkv).1).2
  unfold bestRows blocksV
  rw [List.map_map]
  exact z
theorem map_sum_le {α : Type} {f g : α → Int} : ∀ {l : List α}, (∀ x ∈ l, f x ≤ g x) → (l.map f).sum ≤ (l.map g).sum
  | [], _ => Int.le_refl _
  | x :: l, h => by
    rw [List.map_cons, List.map_cons, List.sum_cons, List.sum_cons]
    have h1 := h x List.mem_cons_self
    have h2 := map_sum_le (l := l) fun y hy => h y (List.mem_cons_of_mem _ hy)
    omega
/-- a set with one row of each key, told block by block -/
theorem full_sum {B : Book} {s : List Nat} (h : Full B s) (t c : Nat) : ∃ ch : Row × List Nat → Nat, (∀ kv ∈ blocksK B.tabs B.rows, ch kv ∈ kv.2) ∧ sumV B.rows s t c = ((blocksK B.tabs B.rows).map fun kv => worthV B.rows t c (ch kv)).sum := by
  let ch : Row × List Nat → Nat := fun kv => (s.find? fun x => decide (keyAt B x = kv.1)).getD 0
  have hch : ∀ kv ∈ blocksK B.tabs B.rows, ch kv ∈ s ∧ keyAt B (ch kv) = kv.1 := fun kv hkv => by
    obtain ⟨h1, h2⟩ := block_at hkv
    obtain ⟨i, hi⟩ := List.exists_mem_of_ne_nil _ h1
    obtain ⟨h3, h4⟩ := (h2 i).mp hi
    obtain ⟨j, hj, e⟩ := h.all i h3
    show (s.find? fun x => decide (keyAt B x = kv.1)).getD 0 ∈ s ∧ keyAt B ((s.find? fun x => decide (keyAt B x = kv.1)).getD 0) = kv.1
    cases hf : s.find? fun x => decide (keyAt B x = kv.1) with
    | none =>
      have := List.find?_eq_none.mp hf j hj
      exact absurd (decide_eq_true (e.trans h4)) this
    | some x =>
      have z := List.find?_some hf
      exact ⟨List.mem_of_find?_eq_some hf, of_decide_eq_true z⟩
  have hin : ∀ kv ∈ blocksK B.tabs B.rows, ch kv ∈ kv.2 := fun kv hkv => ((block_at hkv).2 _).mpr ⟨h.lt _ (hch kv hkv).1, (hch kv hkv).2⟩
  refine ⟨ch, hin, ?_⟩
  obtain ⟨nd, _⟩ := choice_full ch hin
  have p : s.Perm ((blocksK B.tabs B.rows).map ch) := (List.perm_ext_iff_of_nodup (lt_nd h.ord) nd).mpr fun x => by
    rw [List.mem_map]
    constructor
    · intro hx
      obtain ⟨kv, h1, h2⟩ := block_of (h.lt x hx)
      obtain ⟨h3, h4⟩ := hch kv h1
      exact ⟨kv, h1, h.inj _ h3 x hx (h4.trans h2)⟩
    · rintro ⟨kv, h1, rfl⟩
      exact (hch kv h1).1
  rw [sumV_perm p]
  unfold sumV
  rw [List.map_map]
  rfl
theorem best_sum (B : Book) (t c : Nat) (s : Int) : sumV B.rows (bestRows B t c s) t c = ((blocksK B.tabs B.rows).map fun kv => worthV B.rows t c (bestV B.rows t c s kv.2)).sum := by
  have p : (bestRows B t c s).Perm ((blocksV B.tabs B.rows).map (bestV B.rows t c s)) := List.mergeSort_perm _ _
  rw [sumV_perm p]
  unfold sumV blocksV
  rw [List.map_map, List.map_map]
  rfl
theorem least_le {B : Book} {s : List Nat} (h : Full B s) (t c : Nat) : sumV B.rows (bestRows B t c (-1)) t c ≤ sumV B.rows s t c := by
  obtain ⟨ch, h1, h2⟩ := full_sum h t c
  rw [best_sum, h2]
  refine map_sum_le fun kv hkv => ?_
  have := bestV_top (rows := B.rows) (t := t) (c := c) (s := -1) (b := kv.2) _ (h1 kv hkv)
  omega
theorem le_greatest {B : Book} {s : List Nat} (h : Full B s) (t c : Nat) : sumV B.rows s t c ≤ sumV B.rows (bestRows B t c 1) t c := by
  obtain ⟨ch, h1, h2⟩ := full_sum h t c
  rw [best_sum, h2]
  refine map_sum_le fun kv hkv => ?_
  have := bestV_top (rows := B.rows) (t := t) (c := c) (s := 1) (b := kv.2) _ (h1 kv hkv)
  omega
/-! ### what is told is right -/
theorem told_plain {B : Book} (h : B.rules = []) (t c : Nat) : ToldOk B (byBlocksV B t c) (totalsV B t c) t c := by
  have C := calm_plain h
  have m1 := (mended_calm C _).mpr (best_full B t c (-1))
  have m2 := (mended_calm C _).mpr (best_full B t c 1)
  refine ⟨⟨List.mem_map.mpr ⟨_, m1, rfl⟩, fun y hy => ?_⟩, ⟨List.mem_map.mpr ⟨_, m2, rfl⟩, fun y hy => ?_⟩, ⟨m1, rfl⟩, ⟨m2, rfl⟩⟩
  · obtain ⟨s, hs, rfl⟩ := List.mem_map.mp hy
    exact least_le ((mended_calm C s).mp hs) t c
  · obtain ⟨s, hs, rfl⟩ := List.mem_map.mp hy
    exact le_greatest ((mended_calm C s).mp hs) t c
theorem first_told {B : Book} {t c : Nat} {m : Int} (hm : m ∈ totalsV B t c) : (mendedV B).getD (firstAt (totalsV B t c) m) [] ∈ mendedV B ∧ sumV B.rows ((mendedV B).getD (firstAt (totalsV B t c) m) []) t c = m := by
  obtain ⟨h1, _⟩ := first_ok hm
  have hlt : firstAt (totalsV B t c) m < (mendedV B).length := by
    have := (List.getElem?_eq_some_iff.mp h1).1
    unfold totalsV at this ⊢
    rwa [List.length_map] at this
  have e : (mendedV B).getD (firstAt (totalsV B t c) m) [] = (mendedV B)[firstAt (totalsV B t c) m] := by
    rw [List.getD_eq_getElem?_getD, List.getElem?_eq_getElem hlt]
    rfl
  rw [e]
  refine ⟨List.getElem_mem hlt, ?_⟩
  have h1 : ((mendedV B).map fun s => sumV B.rows s t c)[firstAt (totalsV B t c) m]? = some m := h1
  rw [List.getElem?_map, List.getElem?_eq_getElem hlt] at h1
  exact Option.some.inj h1
theorem told_through (B : Book) (t c : Nat) : ToldOk B (throughV B t c) (totalsV B t c) t c := by
  have hne : totalsV B t c ≠ [] := fun e => mended_ne B (List.map_eq_nil_iff.mp e)
  exact ⟨minV_ok hne, maxV_ok hne, first_told (minV_ok hne).1, first_told (maxV_ok hne).1⟩
theorem told_right (B : Book) (t c : Nat) : ToldOk B (sumsV B t c) (totalsV B t c) t c := by
  unfold sumsV
  by_cases h : B.rules.isEmpty = true
  · rw [if_pos h]
    exact told_plain (List.isEmpty_iff.mp h) t c
  · rw [if_neg h]
    exact told_through B t c
theorem told_uniq {B B' : Book} {x x' : Told} {ts ts' : List Int} {t c : Nat} (h : ToldOk B x ts t c) (h' : ToldOk B' x' ts' t c) (e : ∀ y, y ∈ ts ↔ y ∈ ts') : x.lo = x'.lo ∧ x.hi = x'.hi :=
  ⟨Int.le_antisymm (h.lo.2 _ ((e _).mpr h'.lo.1)) (h'.lo.2 _ ((e _).mp h.lo.1)), Int.le_antisymm (h'.hi.2 _ ((e _).mp h.hi.1)) (h.hi.2 _ ((e _).mpr h'.hi.1))⟩
/-! ### a book that is good -/
theorem good_mended {B : Book} (h : goodV B (allRows B) = true) : ∀ s ∈ mendedV B, s = allRows B := by
  unfold goodV at h
  rw [Bool.and_eq_true, List.isEmpty_iff, List.isEmpty_iff] at h
  obtain ⟨h1, h2⟩ := h
  have hb : ∀ i ∈ allRows B, ∀ r ∈ B.rules, barsV r (rowAt B.rows i) = false ∧ lacksV r (rowAt B.rows i) ((allRows B).map (rowAt B.rows)) = false := fun i hi r hr => by
    obtain ⟨k, hk, e⟩ := List.mem_iff_getElem.mp hr
    have hq : (r, k) ∈ B.rules.zipIdx := List.mem_zipIdx_iff_getElem?.mpr (by rw [List.getElem?_eq_getElem hk, e])
    have z := List.flatMap_eq_nil_iff.mp (List.flatMap_eq_nil_iff.mp h1 i hi) (r, k) hq
    obtain ⟨z1, z2⟩ := List.append_eq_nil_iff.mp z
    constructor
    · cases hc : barsV r (rowAt B.rows i) with
      | false => rfl
      | true =>
        rw [if_pos hc] at z1
        cases z1
    · cases hc : lacksV r (rowAt B.rows i) ((allRows B).map (rowAt B.rows)) with
      | false => rfl
      | true =>
        rw [if_pos hc] at z2
        cases z2
  have l0 : left0 B (allRows B) = allRows B := filter_full fun i hi => by rw [any_none fun r hr => (hb i hi r hr).1]; rfl
  have l1 : leftStep B (allRows B) = allRows B := filter_full fun i hi => by rw [any_none fun r hr => (hb i hi r hr).2]; rfl
  have hh : heldV B (allRows B) = allRows B := by
    unfold heldV
    rw [l0, heldGo, l1, if_pos rfl]
  have hc : ∀ p, p ∉ clashesV B := fun p hp => by
    obtain ⟨b, hb, _⟩ := clash_mem.mp hp
    rw [hh, h2] at hb
    cases hb
  have hc0 : clashesV B = [] := List.eq_nil_iff_forall_not_mem.mpr hc
  have hr0 : rowsV (clashesV B) = [] := List.eq_nil_iff_forall_not_mem.mpr fun x hx => by
    obtain ⟨p, hp, _⟩ := rowsV_mem.mp hx
    exact hc p hp
  intro s hs
  have hs := greatest_in (List.mem_mergeSort.mp hs)
  obtain ⟨f, hf, rfl⟩ := List.mem_map.mp hs
  have hf0 : f = [] := by
    have z := freeV_sub hf
    rw [hr0] at z
    exact List.sublist_nil.mp z
  have ho : othersV B (rowsV (clashesV B)) = allRows B := by
    unfold othersV
    rw [hh, hr0]
    exact filter_full fun x _ => rfl
  have hso : sortN (allRows B) = allRows B := by
    unfold sortN
    refine List.mergeSort_of_pairwise ?_
    exact (List.pairwise_lt_range).imp fun h => by simpa using Nat.le_of_lt h
  rw [hf0, List.nil_append, ho, hso, hh]
theorem good_told {B : Book} {x : Told} {t c : Nat} (h : goodV B (allRows B) = true) (hx : ToldOk B x (totalsV B t c) t c) : x.lo = sumV B.rows (allRows B) t c ∧ x.hi = sumV B.rows (allRows B) t c := by
  obtain ⟨s, hs, e⟩ := List.mem_map.mp hx.lo.1
  obtain ⟨u, hu, e2⟩ := List.mem_map.mp hx.hi.1
  rw [good_mended h s hs] at e
  rw [good_mended h u hu] at e2
  exact ⟨e.symm, e2.symm⟩
/-! ### an idle rule -/
theorem idle_told {B : Book} {r : Rule} (h : B.rules = []) (hi : ∃ t a b, r = .never t [⟨.is (.z a), "same", .is (.z b)⟩] ∧ a ≠ b) (t c : Nat) :
    (sumsV ⟨B.tabs, [r], B.rows⟩ t c).lo = (sumsV B t c).lo ∧ (sumsV ⟨B.tabs, [r], B.rows⟩ t c).hi = (sumsV B t c).hi := by
  have C := calm_plain h
  have C2 : Calm ⟨B.tabs, [r], B.rows⟩ := calm_idle rfl hi
  have full : ∀ s, Full ⟨B.tabs, [r], B.rows⟩ s ↔ Full B s := fun s => ⟨fun ⟨h1, h2, h3, h4⟩ => ⟨h1, h2, h3, h4⟩, fun ⟨h1, h2, h3, h4⟩ => ⟨h1, h2, h3, h4⟩⟩
  refine told_uniq (told_right ⟨B.tabs, [r], B.rows⟩ t c) (told_right B t c) fun y => ?_
  unfold totalsV
  rw [List.mem_map, List.mem_map]
  constructor
  · rintro ⟨s, hs, e⟩
    exact ⟨s, (mended_calm C s).mpr ((full s).mp ((mended_calm C2 s).mp hs)), e⟩
  · rintro ⟨s, hs, e⟩
    exact ⟨s, (mended_calm C2 s).mpr ((full s).mpr ((mended_calm C s).mp hs)), e⟩
/-! ### a turned book -/
theorem negC_inj {a b : Cell} (h : negC a = negC b) : a = b := by
  cases a <;> cases b
  · have := Cell.z.inj h
    exact congrArg Cell.z (by omega)
  · cases h
  · cases h
  · exact h
theorem negs_inj : ∀ {a b : List Cell}, a.map negC = b.map negC → a = b
  | [], [], _ => rfl
  | [], _ :: _, h => by cases h
  | _ :: _, [], h => by cases h
  | x :: a, y :: b, h => by
    rw [List.map_cons, List.map_cons] at h
    injection h with h1 h2
    rw [negC_inj h1, negs_inj h2]
theorem turnR_inj {a b : Row} (h : turnR a = turnR b) : a = b := by
  cases a
  cases b
  have h : Row.mk _ _ = Row.mk _ _ := h
  simp only [Row.mk.injEq] at h ⊢
  exact ⟨h.1, negs_inj h.2⟩
theorem turn_at (rows : List Row) (i : Nat) : rowAt (rows.map turnR) i = turnR (rowAt rows i) := by
  unfold rowAt
  rw [List.getD_eq_getElem?_getD, List.getD_eq_getElem?_getD, List.getElem?_map]
  cases rows[i]? <;> rfl
theorem worth_turn (rows : List Row) (t c i : Nat) : worthV (rows.map turnR) t c i = - worthV rows t c i := by
  unfold worthV
  rw [turn_at]
  show (if (!decide ((rowAt rows i).t = t)) = true then 0 else numV (cellAt (turnR (rowAt rows i)) c)) = _
  have hc : numV (cellAt (turnR (rowAt rows i)) c) = - numV (cellAt (rowAt rows i) c) := by
    unfold cellAt turnR
    show numV (((rowAt rows i).cs.map negC).getD c (.z 0)) = _
    rw [List.getD_eq_getElem?_getD, List.getD_eq_getElem?_getD, List.getElem?_map]
    cases (rowAt rows i).cs[c]? with
    | none => rfl
    | some x =>
      cases x with
      | z v =>
        show 0 - v = -v
        omega
      | s x => rfl
  rw [hc]
  split
  · rfl
  · rfl
theorem key_turn (tabs : List Tab) (r : Row) : keyOf tabs (turnR r) = turnR (keyOf tabs r) := by
  unfold keyOf turnR
  show Row.mk r.t ((r.cs.map negC).take _) = Row.mk r.t ((r.cs.take _).map negC)
  rw [List.map_take]
theorem put_turn (l : List (Row × List Nat)) (k : Row) (i : Nat) : blockPut (l.map fun kv => (turnR kv.1, kv.2)) (turnR k) i = (blockPut l k i).map fun kv => (turnR kv.1, kv.2) := by
  have hany : ((l.map fun kv => (turnR kv.1, kv.2)).any fun kv => decide (kv.1 = turnR k)) = l.any fun kv => decide (kv.1 = k) := by
    rw [List.any_map]
    congr 1
    funext kv
    exact decide_eq_decide.mpr ⟨fun h => turnR_inj h, fun h => congrArg turnR h⟩
  unfold blockPut
  rw [hany]
  split
  · rw [List.map_map, List.map_map]
    refine List.map_congr_left fun kv _ => ?_
    show (if turnR kv.1 = turnR k then (turnR kv.1, kv.2 ++ [i]) else (turnR kv.1, kv.2)) = (fun kv : Row × List Nat => (turnR kv.1, kv.2)) (if kv.1 = k then (kv.1, kv.2 ++ [i]) else kv)
    by_cases h : kv.1 = k
    · rw [if_pos h, if_pos (congrArg turnR h)]
    · rw [if_neg h, if_neg fun z => h (turnR_inj z)]
  · rw [List.map_append]
    rfl
theorem blocks_turn (tabs : List Tab) (rows : List Row) : blocksV tabs (rows.map turnR) = blocksV tabs rows := by
  have go : ∀ (qs : List (Row × Nat)) (l : List (Row × List Nat)), (qs.map fun q => (turnR q.1, q.2)).foldl (fun l q => blockPut l (keyOf tabs q.1) q.2) (l.map fun kv => (turnR kv.1, kv.2)) = (qs.foldl (fun l q => blockPut l (keyOf tabs q.1) q.2) l).map fun kv => (turnR kv.1, kv.2) := by
    intro qs
    induction qs with
    | nil => exact fun l => rfl
    | cons q qs ih =>
      intro l
      rw [List.map_cons, List.foldl_cons, List.foldl_cons, ← ih]
      show List.foldl _ (blockPut _ (keyOf tabs (turnR q.1)) q.2) _ = _
      rw [key_turn, put_turn]
  have z := go rows.zipIdx []
  unfold blocksV blocksK
  rw [List.zipIdx_map]
  have e : rows.zipIdx.map (Prod.map turnR id) = rows.zipIdx.map fun q => (turnR q.1, q.2) := List.map_congr_left fun q _ => rfl
  rw [e]
  have z : (rows.zipIdx.map fun q => (turnR q.1, q.2)).foldl (fun l q => blockPut l (keyOf tabs q.1) q.2) [] = _ := z
  rw [z, List.map_map]
  rfl
theorem best_turn (rows : List Row) (t c : Nat) (s : Int) (b : List Nat) : bestV (rows.map turnR) t c s b = bestV rows t c (-s) b := by
  unfold bestV
  congr 1
  funext f i
  rw [worth_turn, worth_turn, Int.mul_neg, Int.mul_neg, Int.neg_mul, Int.neg_mul]
theorem rows_turn (B : Book) (t c : Nat) (s : Int) : bestRows ⟨B.tabs, [], B.rows.map turnR⟩ t c s = bestRows B t c (-s) := by
  unfold bestRows
  show sortN ((blocksV B.tabs (B.rows.map turnR)).map (bestV (B.rows.map turnR) t c s)) = _
  rw [blocks_turn]
  congr 1
  exact List.map_congr_left fun b _ => best_turn _ _ _ _ _
theorem sum_turn (rows : List Row) (t c : Nat) : ∀ l : List Nat, sumV (rows.map turnR) l t c = - sumV rows l t c := by
  intro l
  unfold sumV
  induction l with
  | nil => rfl
  | cons i l ih =>
    rw [List.map_cons, List.map_cons, List.sum_cons, List.sum_cons, ih, worth_turn]
    omega
theorem turn_told {B : Book} (h : B.rules = []) (t c : Nat) : 0 - (sumsV ⟨B.tabs, [], B.rows.map turnR⟩ t c).hi = (sumsV B t c).lo ∧ 0 - (sumsV ⟨B.tabs, [], B.rows.map turnR⟩ t c).lo = (sumsV B t c).hi := by
  have e1 : sumsV ⟨B.tabs, [], B.rows.map turnR⟩ t c = byBlocksV ⟨B.tabs, [], B.rows.map turnR⟩ t c := by
    unfold sumsV
    exact if_pos rfl
  have e2 : sumsV B t c = byBlocksV B t c := by
    unfold sumsV
    rw [if_pos (by rw [h]; rfl)]
  rw [e1, e2]
  show 0 - sumV (B.rows.map turnR) (bestRows ⟨B.tabs, [], B.rows.map turnR⟩ t c 1) t c = sumV B.rows (bestRows B t c (-1)) t c ∧ 0 - sumV (B.rows.map turnR) (bestRows ⟨B.tabs, [], B.rows.map turnR⟩ t c (-1)) t c = sumV B.rows (bestRows B t c 1) t c
  rw [sum_turn, sum_turn, rows_turn, rows_turn]
  exact ⟨by omega, by rw [Int.neg_neg]; omega⟩
end Md
namespace Md
open PySem PySem.Spec PyProof.Rows L2
theorem sm {n : Nat} (h : Nat.ble n 100000 = true) : n ≤ 100000 := Nat.le_of_ble_eq_true h
theorem len0 {α : Type} (l : List α) (e : α → Dt) : decide (((l.map e).length : Nat) = (0 : Int)) = l.isEmpty := by
  cases l with
  | nil => rfl
  | cons a r =>
    rw [List.isEmpty_cons, decide_eq_false]
    rw [List.map_cons, List.length_cons]
    omega
theorem wp_is_plain (F : Fx) (ds : List Dt) (d : Dt) (r : R_is_plain ds d) : Wp F (t_is_plain F.K F.cl) (ro0 ["book"] ds) (endP d) := by
  obtain ⟨B, _, rfl, rfl⟩ := r
  exact wp_ret (ev_op (ev_len (ev_at 1 (ev_var rfl) rfl) (.inr rfl)) ev_int rv_eqI) (congrArg Dt.bl (len0 _ _))
theorem wp_check_plain (F : Fx) (ds : List Dt) (d : Dt) (r : R_check_plain ds d) : Wp F (t_check_plain F.K F.cl) (ro0 ["book"] ds) (endP d) := by
  obtain ⟨B, h, rfl, rfl⟩ := r
  exact wp_no (et_is (et_not (et_B (ev_call (ea_one (ev_var rfl)) ⟨B, trivial, rfl, rfl⟩))) (by rw [h]; rfl)) (wp_next rfl)
theorem key_d (tabs : List Tab) (r : Row) : (keyOf tabs r).d = .tup [.int (r.t : Nat), .tup ((r.cs.map Cell.d).take (tabs.getD r.t (0, 0)).2)] := by
  show Dt.tup [_, .tup ((r.cs.take _).map Cell.d)] = _
  rw [List.map_take]
  rfl
theorem tab_get {tabs : List Tab} {t : Nat} (h : t < tabs.length) : (tabs.map tabD)[t]? = some (tabD (tabs.getD t (0, 0))) := by
  rw [List.getElem?_map, List.getD_eq_getElem?_getD, List.getElem?_eq_getElem h]
  rfl
theorem ev_pair2 {F : Fx} {te : TE} {ρ ρ1 : Ro} {d1 d2 : Dt} {i j : Nat} {Φ : Pd} (h : Ev F te ρ (.tup [d1, d2]) ρ1) (k : Φ.nx ((ρ1.set i (.im d1)).set j (.im d2))) : Wp F (tAsg te (gTup F.K 2 (gCons (gName i) (gCons (gName j) gNil)))) ρ Φ :=
  wp_asg h (tg_tup rfl (tgs_cons tg_name (tgs_cons tg_name tgs_nil))) k
theorem wp_key_of (F : Fx) (ds : List Dt) (d : Dt) (r : R_key_of ds d) : Wp F (t_key_of F.K F.cl) (ro0 ["book", "row", "t", "cells"] ds) (endP d) := by
  obtain ⟨⟨B, r⟩, h, rfl, rfl⟩ := r
  refine wp_seq (ev_pair2 (ev_var rfl) ?_)
  refine wp_ret (ev_tup (ea_two (ev_var rfl) (ev_sl (ev_var rfl) eo_none (eo_some (ev_at 1 (ev_ixv (ev_at 0 (ev_var rfl) rfl) (ev_var rfl) (tab_get h)) rfl)) rs_tup)) (sm rfl)) ?_
  rw [cut_take]
  exact (key_d B.tabs r).symm
theorem row_get {rows : List Row} {k : Nat} {r : Row} (h : rows[k]? = some r) : (rows.map Row.d)[k]? = some r.d := get_map h
theorem cell_get {r : Row} {c : Nat} (h : c < r.cs.length) : (r.cs.map Cell.d)[c]? = some (cellAt r c).d := by
  rw [List.getElem?_map, cellAt, List.getD_eq_getElem?_getD, List.getElem?_eq_getElem h]
  rfl
theorem rowAt_of {rows : List Row} {k : Nat} {r : Row} (h : rows[k]? = some r) : rowAt rows k = r := by
  rw [rowAt, List.getD_eq_getElem?_getD, h]
  rfl
theorem rowAt_get {rows : List Row} {k : Nat} (h : k < rows.length) : rows[k]? = some (rowAt rows k) := by
  rw [rowAt, List.getD_eq_getElem?_getD, List.getElem?_eq_getElem h]
  rfl
theorem wp_side_value (F : Fx) (ds : List Dt) (d : Dt) (r : R_side_value ds d) : Wp F (t_side_value F.K F.cl) (ro0 ["side", "rows"] ds) (endP d) := by
  obtain ⟨⟨s, rows⟩, h, rfl, rfl⟩ := r
  cases s with
  | is c =>
    refine wp_seq (wp_yes (et_is (et_test (ev_op (ev_at 0 (ev_var rfl) rfl) ev_str rv_eqS)) (by decide +kernel)) ?_)
    exact wp_ret (ev_at 1 (ev_var rfl) rfl) rfl
  | cell k c =>
    obtain ⟨r, h1, h2⟩ := h
    refine wp_seq (wp_no (et_is (et_test (ev_op (ev_at 0 (ev_var rfl) rfl) ev_str rv_eqS)) (by decide +kernel)) (wp_next ?_))
    refine wp_ret (ev_ixv (ev_at 1 (ev_ixv (ev_var rfl) (ev_at 1 (ev_var rfl) rfl) (row_get h1)) rfl) (ev_at 2 (ev_var rfl) rfl) (cell_get h2)) ?_
    show (cellAt r c).d = (cellAt (rowAt rows k) c).d
    rw [rowAt_of h1]
theorem dec_z (i j : Int) : decide (Cell.z i = Cell.z j) = decide (i = j) := decide_eq_decide.mpr ⟨fun e => Cell.z.inj e, fun e => congrArg Cell.z e⟩
theorem dec_s (i j : Str) : decide (Cell.s i = Cell.s j) = decide (i = j) := decide_eq_decide.mpr ⟨fun e => Cell.s.inj e, fun e => congrArg Cell.s e⟩
theorem rv_eqC {F : Fx} : ∀ a b : Cell, Rv F rEq a.d b.d (.bl (decide (a = b)))
  | .z i, .z j => by
    rw [dec_z]
    exact rv_eqI
  | .z i, .s j => by
    rw [decide_eq_false (fun e => Cell.noConfusion e)]
    exact rv_eqIS
  | .s i, .z j => by
    rw [decide_eq_false (fun e => Cell.noConfusion e)]
    exact rv_eqSI
  | .s i, .s j => by
    rw [dec_s]
    exact rv_eqS
theorem rv_neC {F : Fx} : ∀ a b : Cell, Rv F rNe a.d b.d (.bl (!decide (a = b)))
  | .z i, .z j => by
    rw [dec_z]
    exact rv_neI
  | .z i, .s j => by
    rw [decide_eq_false (fun e => Cell.noConfusion e)]
    exact rv_neIS
  | .s i, .z j => by
    rw [decide_eq_false (fun e => Cell.noConfusion e)]
    exact rv_neSI
  | .s i, .s j => by
    rw [dec_s]
    exact rv_neS
theorem kt_ii : kitB "int" "int" = some true := by decide +kernel
theorem kt_si : kitB "str" "int" = some false := by decide +kernel
theorem kt_is : kitB "int" "str" = some false := by decide +kernel
theorem kt_ss : kitB "str" "str" = some true := by decide +kernel
theorem kt_ib : kitB "int" "bool" = some false := by decide +kernel
theorem kt_tt : kitB "tuple" "tuple" = some true := by decide +kernel
def isZ : Cell → Bool
  | .z _ => true
  | .s _ => false
theorem ev_isiC {F : Fx} {te : TE} {ρ ρ1 : Ro} {c : Cell} (h : Ev F te ρ c.d ρ1) : Ev F (tCB (rIsi F.K) (tCons te (tCons (tC (.ty "int")) tNil))) ρ (.bl (isZ c)) ρ1 := by
  cases c with
  | z i => exact ev_isi h rfl kt_ii
  | s x => exact ev_isi h rfl kt_si
theorem ev_isiS {F : Fx} {te : TE} {ρ ρ1 : Ro} {c : Cell} (h : Ev F te ρ c.d ρ1) : Ev F (tCB (rIsi F.K) (tCons te (tCons (tC (.ty "str")) tNil))) ρ (.bl (!isZ c)) ρ1 := by
  cases c with
  | z i => exact ev_isi h rfl kt_is
  | s x => exact ev_isi h rfl kt_ss
theorem wp_test_holds (F : Fx) (ds : List Dt) (d : Dt) (r : R_test_holds ds d) : Wp F (t_test_holds F.K F.cl) (ro0 ["test", "rows", "left", "right"] ds) (endP d) := by
  obtain ⟨⟨t, rows⟩, ⟨h1, h2⟩, rfl, rfl⟩ := r
  refine wp_seq (wp_set (ev_call (ea_two (ev_at 0 (ev_var rfl) rfl) (ev_var rfl)) ⟨(t.l, rows), h1, rfl, rfl⟩) ?_)
  refine wp_seq (wp_set (ev_call (ea_two (ev_at 2 (ev_var rfl) rfl) (ev_var rfl)) ⟨(t.r, rows), h2, rfl, rfl⟩) ?_)
  refine wp_seq (wp_if (et_test (ev_op (ev_at 1 (ev_var rfl) rfl) ev_str rv_eqS)) (fun e => ?_) fun e => wp_next ?_)
  · refine wp_ret (ev_op (ev_var rfl) (ev_var rfl) (rv_eqC _ _)) ?_
    show Dt.bl _ = Dt.bl (testV rows t)
    rw [testV, if_pos (of_decide_eq_true e)]
  · refine wp_seq (wp_if (et_test (ev_op (ev_at 1 (ev_var rfl) rfl) ev_str rv_eqS)) (fun e2 => ?_) fun e2 => wp_next ?_)
    · refine wp_ret (ev_op (ev_var rfl) (ev_var rfl) (rv_neC _ _)) ?_
      show Dt.bl _ = Dt.bl (testV rows t)
      rw [testV, if_neg (of_decide_eq_false e), if_pos (of_decide_eq_true e2)]
    · have key : Ev F (tAndV (tCB (rIsi F.K) (tCons (tVar 2) (tCons (tC (.ty "int")) tNil))) (tAndV (tCB (rIsi F.K) (tCons (tVar 3) (tCons (tC (.ty "int")) tNil))) (tOp qLt (tVar 2) (tVar 3))))
          [.im t.d, .im (rowsD rows), .im (sideV rows t.l).d, .im (sideV rows t.r).d] (.bl (lessV (sideV rows t.l) (sideV rows t.r))) [.im t.d, .im (rowsD rows), .im (sideV rows t.l).d, .im (sideV rows t.r).d] := by
        generalize sideV rows t.l = a
        generalize sideV rows t.r = b
        cases a with
        | s x => exact ev_andV (b := false) (ev_isiC (c := .s x) (ev_var rfl)) (fun z => by cases z)
        | z i =>
          cases b with
          | s y => exact ev_andV (b := false) (ev_isiC (c := .z i) (ev_var rfl)) fun _ => ev_andV (b := false) (ev_isiC (c := .s y) (ev_var rfl)) (fun z => by cases z)
          | z j => exact ev_andV (ev_isiC (c := .z i) (ev_var rfl)) fun _ => ev_andV (ev_isiC (c := .z j) (ev_var rfl)) fun _ => ev_op (ev_var rfl) (ev_var rfl) rv_lt
      refine wp_ret key ?_
      show Dt.bl _ = Dt.bl (testV rows t)
      rw [testV, if_neg (of_decide_eq_false e), if_neg (of_decide_eq_false e2)]
theorem clean_im {ρ : Ro} {k : Nat} (h : ρ[k]? = some .no ∨ (∃ d, ρ[k]? = some (.im d))) : (∀ m, ρ[k]? ≠ some (.ow m)) ∧ ∀ s, ρ[k]? ≠ some (.pm s) := by
  rcases h with h | ⟨d, h⟩ <;> rw [h] <;> exact ⟨(fun _ z => by cases z), fun _ z => by cases z⟩
theorem clean1 {ρ : Ro} {k : Nat} (h : ρ[k]? = some .no ∨ (∃ d, ρ[k]? = some (.im d))) : Clean ρ [k] := fun j hj => by
  rw [List.mem_singleton.mp hj]
  exact clean_im h
theorem wp_all_hold (F : Fx) (ds : List Dt) (d : Dt) (r : R_all_hold ds d) : Wp F (t_all_hold F.K F.cl) (ro0 ["tests", "rows", "test"] ds) (endP d) := by
  obtain ⟨⟨ts, rows⟩, ⟨h1, h2⟩, rfl, rfl⟩ := r
  have h2 : ts.length < 1000 := h2
  have lc := ev_lcA (F := F) (ρ := ro0 ["tests", "rows", "test"] [.tup (ts.map Test.d), rowsD rows]) (vs := [2]) (g := gName 2) (te := tCall (sp_test_holds F.K F.cl) [] E0 (tCons (tVar 2) (tCons (tVar 1) tNil))) ts Test.d (fun t => .bl (testV rows t)) (ei_tup (ev_var (k := 0) rfl)) (by omega) (clean1 (.inl rfl)) fun B' G t ht =>
    ⟨[2], _, fun k hk => hk, tg_name, ev_call (ea_two (ev_var rfl) (ev_var rfl)) ⟨(t, rows), h1 t ht, rfl, rfl⟩, rfl⟩
  have e : ts.map (fun t => Dt.bl (testV rows t)) = (ts.map (testV rows)).map .bl := by rw [List.map_map]; rfl
  rw [e] at lc
  refine wp_ret (ev_CB (ea_one lc) rc_all) ?_
  show Dt.bl _ = Dt.bl (ts.all (testV rows))
  rw [List.all_map]
  rfl
end Md
namespace Md
open PySem PySem.Spec PyProof.Rows L2
section
variable {F : Fx} {a b : Nat}
theorem decN : decide (((a : Nat) : Int) = ((b : Nat) : Int)) = decide (a = b) := decide_eq_decide.mpr (by omega)
theorem rv_eqN : Rv F rEq (natD a) (natD b) (.bl (decide (a = b))) := by
  rw [← decN]
  exact rv_eqI
theorem rv_neN : Rv F rNe (natD a) (natD b) (.bl (!decide (a = b))) := by
  rw [← decN]
  exact rv_neI
theorem rv_ltN : Rv F qLt (natD a) (natD b) (.bl (decide (a < b))) := by
  rw [show decide (a < b) = decide (((a : Nat) : Int) < ((b : Nat) : Int)) from decide_eq_decide.mpr (by omega)]
  exact rv_lt
end
theorem Cell.d_inj : ∀ {a b : Cell}, a.d = b.d → a = b
  | .z _, .z _, h => congrArg Cell.z (Dt.int.inj h)
  | .s _, .s _, h => congrArg Cell.s (Dt.str.inj h)
  | .z _, .s _, h => by cases h
  | .s _, .z _, h => by cases h
theorem map_inj {α : Type} {e : α → Dt} (h : ∀ a b, e a = e b → a = b) : ∀ {xs ys : List α}, xs.map e = ys.map e → xs = ys
  | [], [], _ => rfl
  | [], _ :: _, z => by cases z
  | _ :: _, [], z => by cases z
  | x :: xs, y :: ys, z => by
    rw [List.map_cons, List.map_cons] at z
    injection z with z1 z2
    rw [h x y z1, map_inj h z2]
theorem natD_inj (a b : Nat) (h : natD a = natD b) : a = b := by
  have := Dt.int.inj h
  omega
theorem Row.d_inj (a b : Row) (h : a.d = b.d) : a = b := by
  cases a
  cases b
  have h := Dt.tup.inj h
  simp only [List.cons.injEq, and_true] at h
  have h1 := Dt.int.inj h.1
  have h2 := map_inj (fun _ _ => Cell.d_inj) (Dt.tup.inj h.2)
  simp only [Row.mk.injEq]
  exact ⟨by omega, h2⟩
theorem nice_cell {n : Nat} : ∀ {c : Cell}, c.Ok → Nice n c.d
  | .z i, _ => .int i
  | .s x, h => .str (by
    unfold PyData.strOk
    rw [← Array.all_toList, List.all_eq_true]
    intro c hc
    have := h.2.2 c hc
    exact decide_eq_true (by omega))
theorem nice_cells {n : Nat} {cs : List Cell} (h : ∀ c ∈ cs, c.Ok) : ∀ d ∈ cs.map Cell.d, Nice n d := fun d hd => by
  obtain ⟨c, hc, rfl⟩ := List.mem_map.mp hd
  exact nice_cell (h c hc)
theorem nice_row {r : Row} (h : ∀ c ∈ r.cs, c.Ok) : Nice 2 r.d := .tup fun d hd => by
  rcases List.mem_cons.mp hd with e | hd
  · rw [e]
    exact .int _
  · rw [List.mem_singleton.mp hd]
    exact .tup (nice_cells h)
theorem Row.Ok.cells {tabs : List Tab} {r : Row} (h : r.Ok tabs) : ∀ c ∈ r.cs, c.Ok := by
  obtain ⟨T, _, _, h⟩ := h
  exact h
theorem Row.Ok.wide {tabs : List Tab} {r : Row} {c : Nat} (h : r.Ok tabs) (hc : ColOk tabs r.t c) : c < r.cs.length := by
  obtain ⟨T, h1, h2, _⟩ := h
  obtain ⟨T', h3, h4⟩ := hc
  rw [h1] at h3
  cases h3
  omega
theorem fits_of {tabs : List Tab} {there : List Nat} {rows : List Row} {s : Side} (h : s.Ok tabs there) (hr : rows.map Row.t = there) (ho : ∀ r ∈ rows, r.Ok tabs) : s.Fits rows := by
  cases s with
  | is c => trivial
  | cell k c =>
    obtain ⟨t, h1, h2⟩ := h
    rw [← hr, List.getElem?_map] at h1
    cases e : rows[k]? with
    | none =>
      rw [e] at h1
      cases h1
    | some r =>
      rw [e] at h1
      cases h1
      exact ⟨r, e, (ho r (List.mem_of_getElem? e)).wide h2⟩
theorem tfits_of {tabs : List Tab} {there : List Nat} {rows : List Row} {ts : List Test} (h : TestsOk tabs there ts) (hr : rows.map Row.t = there) (ho : ∀ r ∈ rows, r.Ok tabs) : (∀ t ∈ ts, t.Fits rows) ∧ ts.length < 1000 :=
  ⟨fun t ht => ⟨fits_of (h.2.2 t ht).1 hr ho, fits_of (h.2.2 t ht).2.2 hr ho⟩, by have := h.2.1; omega⟩
theorem wp_bars_Rule (c : Nat) (F : Fx) (hc : c ≠ 0) (ds : List Dt) (d : Dt) (r : RBars c ds d) : Wp F (t_bars_Rule F.K F.cl) (ro0 ["self", "row"] ds) (endP d) := by
  obtain ⟨⟨tabs, r, row⟩, ⟨h1, _⟩, rfl, rfl⟩ := r
  refine wp_ret ev_bl ?_
  cases r with
  | never t ts => exact absurd h1.symm hc
  | apart t u ts => rfl
  | tie t cs u ds => rfl
theorem wp_parts_them_Rule (c : Nat) (F : Fx) (hc : c ≠ 1) (ds : List Dt) (d : Dt) (r : RParts c ds d) : Wp F (t_parts_them_Rule F.K F.cl) (ro0 ["self", "row", "other"] ds) (endP d) := by
  obtain ⟨⟨tabs, r, row, o⟩, ⟨h1, _⟩, rfl, rfl⟩ := r
  refine wp_ret ev_bl ?_
  cases r with
  | apart t u ts => exact absurd h1.symm hc
  | never t ts => rfl
  | tie t cs u ds => rfl
theorem wp_lacks_Rule (c : Nat) (F : Fx) (hc : c ≠ 2) (ds : List Dt) (d : Dt) (r : RLacks c ds d) : Wp F (t_lacks_Rule F.K F.cl) (ro0 ["self", "row", "rows"] ds) (endP d) := by
  obtain ⟨⟨tabs, r, row, o⟩, ⟨h1, _⟩, rfl, rfl⟩ := r
  refine wp_ret ev_bl ?_
  cases r with
  | tie t cs u ds => exact absurd h1.symm hc
  | never t ts => rfl
  | apart t u ts => rfl
theorem wp_bars_Never (F : Fx) (hC : Cls F.K (F.cl 0)) (hn : NoAttr F.K (F.cl 0) "parts") (ds : List Dt) (d : Dt) (r : RBars 0 ds d) : Wp F (t_bars_Never F.K F.cl) (ro0 ["self", "row"] ds) (endP d) := by
  obtain ⟨⟨tabs, r, row⟩, ⟨h1, h2, h3⟩, rfl, rfl⟩ := r
  cases r with
  | apart t u ts => cases h1
  | tie t cs u ds => cases h1
  | never t ts =>
    refine wp_ret (ev_andV (ev_op (ev_at 0 (ev_var rfl) rfl) (ev_at 1 (ev_fld (ev_var rfl) hC hn) rfl) rv_eqN) fun e => ?_) rfl
    have e : row.t = t := of_decide_eq_true e
    have f := tfits_of (rows := [row]) h2.2 (by rw [List.map_cons, e]; rfl) (fun r hr => by rw [List.mem_singleton.mp hr]; exact h3)
    exact ev_call (ea_two (ev_at 2 (ev_fld (ev_var rfl) hC hn) rfl) (ev_tup (ea_one (ev_var rfl)) (sm rfl))) ⟨(ts, [row]), f, rfl, rfl⟩
theorem wp_one_way_Apart (F : Fx) (hC : Cls F.K (F.cl 1)) (hn : NoAttr F.K (F.cl 1) "parts") (ds : List Dt) (d : Dt) (r : R_one_way_Apart ds d) : Wp F (t_one_way_Apart F.K F.cl) (ro0 ["self", "row", "other"] ds) (endP d) := by
  obtain ⟨⟨tabs, r, row, o⟩, ⟨h1, h2, h3, h4⟩, rfl, rfl⟩ := r
  cases r with
  | never t ts => cases h1
  | tie t cs u ds => cases h1
  | apart t u ts =>
    refine wp_seq (wp_if (et_or (et_test (ev_op (ev_at 0 (ev_var rfl) rfl) (ev_at 1 (ev_fld (ev_var rfl) hC hn) rfl) rv_neN)) fun _ => et_test (ev_op (ev_at 0 (ev_var rfl) rfl) (ev_at 2 (ev_fld (ev_var rfl) hC hn) rfl) rv_neN)) (fun e => ?_) fun e => wp_next ?_)
    · refine wp_ret ev_bl ?_
      show Dt.bl false = Dt.bl (oneV t u ts row o)
      rw [oneV, if_pos e]
    · have e2 : row.t = t ∧ o.t = u := by simpa using e
      have f := tfits_of (rows := [row, o]) h2.2.2 (by rw [List.map_cons, List.map_cons, e2.1, e2.2]; rfl) (fun r hr => by
        rcases List.mem_cons.mp hr with z | hr
        · rw [z]
          exact h3
        · rw [List.mem_singleton.mp hr]
          exact h4)
      refine wp_ret (ev_call (ea_two (ev_at 3 (ev_fld (ev_var rfl) hC hn) rfl) (ev_tup (ea_two (ev_var rfl) (ev_var rfl)) (sm rfl))) ⟨(ts, [row, o]), f, rfl, rfl⟩) ?_
      show Dt.bl _ = Dt.bl (oneV t u ts row o)
      rw [oneV, if_neg (by rw [e]; exact Bool.false_ne_true)]
theorem wp_parts_them_Apart (F : Fx) (ds : List Dt) (d : Dt) (r : RParts 1 ds d) : Wp F (t_parts_them_Apart F.K F.cl) (ro0 ["self", "row", "other"] ds) (endP d) := by
  obtain ⟨⟨tabs, r, row, o⟩, ⟨h1, h2, h3, h4⟩, rfl, rfl⟩ := r
  cases r with
  | never t ts => cases h1
  | tie t cs u ds => cases h1
  | apart t u ts =>
    exact wp_ret (ev_orV (ev_meth (k := 1) (ev_var rfl) (ea_two (ev_var rfl) (ev_var rfl)) (by decide +kernel) ⟨(tabs, .apart t u ts, row, o), ⟨h1, h2, h3, h4⟩, rfl, rfl⟩) fun _ => ev_meth (k := 1) (ev_var rfl) (ea_two (ev_var rfl) (ev_var rfl)) (by decide +kernel) ⟨(tabs, .apart t u ts, o, row), ⟨h1, h2, h4, h3⟩, rfl, rfl⟩) rfl
theorem lc_cells {F : Fx} {te : TE} {ρ : Ro} {r : Row} {cs : List Nat} {k v : Nat} (h : Ev F te ρ (.tup (cs.map natD)) ρ) (hk : k ≠ v) (hv : Clean ρ [v]) (hr : ρ[k]? = some (.im r.d)) (hlv : v < ρ.length) (hc : ∀ c ∈ cs, c < r.cs.length) (hl : cs.length < 1000) :
    Ev F (tLc (iTup F.K te) (gName v) tYes (tOp (rIxT F.K) (tOp (rIxT F.K) (tVar k) (tC (.int 1))) (tVar v)) [v]) ρ (.lst ((cs.map (cellAt r)).map Cell.d)) ρ := by
  have lc := ev_lcA (F := F) (vs := [v]) (g := gName v) (te := tOp (rIxT F.K) (tOp (rIxT F.K) (tVar k) (tC (.int 1))) (tVar v)) cs natD (fun c => (cellAt r c).d) (ei_tup h) (by omega) hv fun B' G c hm =>
    ⟨[v], _, fun k hk => hk, tg_name, ev_ixv (ev_at 1 (d := .tup (r.cs.map Cell.d)) (ev_var (d := r.d) (by
      show ((ρ.set v .no).set v _)[k]? = _
      rw [List.getElem?_set_ne (Ne.symm hk), List.getElem?_set_ne (Ne.symm hk), hr])) rfl) (ev_var (d := natD c) (by
      show ((ρ.set v .no).set v _)[v]? = _
      rw [List.getElem?_set_self (by rw [List.length_set]; exact hlv)])) (cell_get (hc c hm)), by
      show ((ρ.set v .no).set v _).set v .no = ρ.set v .no
      rw [List.set_set, List.set_set]⟩
  rw [List.map_map]
  exact lc
theorem wp_lacks_Tie (F : Fx) (hC : Cls F.K (F.cl 2)) (hn : NoAttr F.K (F.cl 2) "parts") (ds : List Dt) (d : Dt) (r : RLacks 2 ds d) : Wp F (t_lacks_Tie F.K F.cl) (ro0 ["self", "row", "rows", "due", "c", "other"] ds) (endP d) := by
  obtain ⟨⟨tabs, r, row, rows⟩, ⟨h1, h2, h3, h4⟩, rfl, rfl⟩ := r
  cases r with
  | never t ts => cases h1
  | apart t u ts => cases h1
  | tie t cs u ds =>
    obtain ⟨g1, g2, g3, g4, g5, g6, g7⟩ := h2
    refine wp_seq (wp_if (et_test (ev_op (ev_at 0 (ev_var rfl) rfl) (ev_at 1 (ev_fld (ev_var rfl) hC hn) rfl) rv_neN)) (fun e => ?_) fun e => wp_next ?_)
    · refine wp_ret ev_bl ?_
      show Dt.bl false = Dt.bl (lacksV (.tie t cs u ds) row rows)
      rw [lacksV, if_pos e]
    · have e2 : row.t = t := by simpa using e
      have hD : lacksV (.tie t cs u ds) row rows = !(rows.any fun o => decide (o.t = u) && decide (ds.map (cellAt o) = cs.map (cellAt row))) := by
        rw [lacksV, if_neg (by rw [e]; exact Bool.false_ne_true)]
      have hcs : ∀ c ∈ cs, c < row.cs.length := fun c hc => h3.wide (by rw [e2]; exact g6 c hc)
      have nd : ∀ {o : Row} {l : List Nat}, o.Ok tabs → (∀ c ∈ l, c < o.cs.length) → Nice 1 (.lst ((l.map (cellAt o)).map Cell.d)) := fun {o l} ho hl => .lst (nice_cells fun c hc => by
        obtain ⟨k, hk, rfl⟩ := List.mem_map.mp hc
        have hlt := hl k hk
        refine ho.cells _ ?_
        rw [cellAt, List.getD_eq_getElem?_getD, List.getElem?_eq_getElem hlt]
        exact List.getElem_mem hlt)
      refine wp_seq (wp_set (lc_cells (k := 1) (v := 4) (r := row) (cs := cs) (ev_at 2 (ev_fld (ev_var rfl) hC hn) rfl) (by decide) (clean1 (.inl rfl)) rfl (by show 4 < 6; decide) hcs (by omega)) ?_)
      refine wp_seq (wp_forL rows Row.d [4, 5] (fun _ => [.im (Rule.tie t cs u ds).o, .im row.d, .im (rowsO rows), .im (.lst ((cs.map (cellAt row)).map Cell.d)), .no, .no]) (fun pre => ∀ o ∈ pre, (decide (o.t = u) && decide (ds.map (cellAt o) = cs.map (cellAt row))) = false) (ei_list (ev_var rfl)) rfl (fun o ho => nomatch ho) (fun pre o post eq hp => ⟨[5], _, tg_name, ?_⟩) fun hp => ?_)
      · have hmem : o ∈ rows := by
          rw [eq]
          exact List.mem_append.mpr (.inr List.mem_cons_self)
        have ho := h4 o hmem
        refine wp_if (et_and (b := decide (ds.map (cellAt o) = cs.map (cellAt row))) (et_test (ev_op (ev_at 0 (ev_var rfl) rfl) (ev_at 3 (ev_fld (ev_var rfl) hC hn) rfl) rv_eqN)) fun e3 => ?_) (fun e3 => ?_) fun e3 => wp_next ⟨?_, rfl⟩
        · have e3 : o.t = u := of_decide_eq_true e3
          have hds : ∀ c ∈ ds, c < o.cs.length := fun c hc => ho.wide (by rw [e3]; exact g7 c hc)
          refine et_test (ev_op (lc_cells (k := 5) (v := 4) (r := o) (cs := ds) (ev_at 4 (ev_fld (ev_var rfl) hC hn) rfl) (by decide) (clean1 (.inl rfl)) rfl (by show 4 < 6; decide) hds (by omega)) (ev_var rfl) (rv_eqD (nd ho hds) (nd h3 hcs) (by decide) ?_))
          rw [decide_eq_true_iff]
          exact ⟨fun z => by rw [z], fun z => map_inj (fun _ _ => Cell.d_inj) (Dt.lst.inj z)⟩
        · refine wp_ret ev_bl ?_
          show Dt.bl false = Dt.bl (lacksV (.tie t cs u ds) row rows)
          rw [hD, List.any_eq_true.mpr ⟨o, hmem, e3⟩]
          rfl
        · intro o' ho'
          rcases List.mem_append.mp ho' with z | z
          · exact hp o' z
          · rw [List.mem_singleton.mp z]
            exact e3
      · refine wp_ret ev_bl ?_
        show Dt.bl true = Dt.bl (lacksV (.tie t cs u ds) row rows)
        rw [hD, List.any_eq_false.mpr fun o ho => by rw [hp o ho]; exact Bool.false_ne_true]
        rfl
end Md
namespace Md
open PySem PySem.Spec PyProof.Rows L2
theorem wp_rule_of (F : Fx) (ds : List Dt) (d : Dt) (r : R_rule_of ds d) : Wp F (t_rule_of F.K F.cl) (ro0 ["parts"] ds) (endP d) := by
  obtain ⟨r, _, rfl, rfl⟩ := r
  cases r with
  | never t ts => exact wp_seq (wp_yes (et_is (et_test (ev_op (ev_at 0 (ev_var rfl) rfl) ev_str rv_eqS)) (by decide +kernel)) (wp_ret (ev_make (k := 0) (ea_one (ev_var rfl))) rfl))
  | apart t u ts =>
    exact wp_seq (wp_no (et_is (et_test (ev_op (ev_at 0 (ev_var rfl) rfl) ev_str rv_eqS)) (by decide +kernel)) (wp_next (wp_seq (wp_yes (et_is (et_test (ev_op (ev_at 0 (ev_var rfl) rfl) ev_str rv_eqS)) (by decide +kernel)) (wp_ret (ev_make (k := 1) (ea_one (ev_var rfl))) rfl)))))
  | tie t cs u ds =>
    exact wp_seq (wp_no (et_is (et_test (ev_op (ev_at 0 (ev_var rfl) rfl) ev_str rv_eqS)) (by decide +kernel)) (wp_next (wp_seq (wp_no (et_is (et_test (ev_op (ev_at 0 (ev_var rfl) rfl) ev_str rv_eqS)) (by decide +kernel)) (wp_next (wp_ret (ev_make (k := 2) (ea_one (ev_var rfl))) rfl))))))
theorem wp_rules_of (F : Fx) (ds : List Dt) (d : Dt) (r : R_rules_of ds d) : Wp F (t_rules_of F.K F.cl) (ro0 ["book", "parts"] ds) (endP d) := by
  obtain ⟨B, h, rfl, rfl⟩ := r
  have lc := ev_lcA (F := F) (ρ := ro0 ["book", "parts"] [B.d]) (vs := [1]) (g := gName 1) (te := tCall (sp_rule_of F.K F.cl) [] E0 (tCons (tVar 1) tNil)) B.rules Rule.d Rule.o (ei_tup (ev_at 1 (ev_var (k := 0) (d := B.d) rfl) rfl)) (by omega) (clean1 (.inl rfl)) fun B' G r hr =>
    ⟨[1], _, fun k hk => hk, tg_name, ev_call (ea_one (ev_var rfl)) ⟨r, trivial, rfl, rfl⟩, rfl⟩
  exact wp_ret lc rfl
theorem wp_key_at (F : Fx) (ds : List Dt) (d : Dt) (r : R_key_at ds d) : Wp F (t_key_at F.K F.cl) (ro0 ["book", "i", "t", "cells"] ds) (endP d) := by
  obtain ⟨⟨B, i⟩, ⟨hB, hi⟩, rfl, rfl⟩ := r
  have hr := rowAt_get hi
  obtain ⟨T, hT, _⟩ := hB.row _ (List.mem_of_getElem? hr)
  have hlt : (rowAt B.rows i).t < B.tabs.length := (List.getElem?_eq_some_iff.mp hT).1
  refine wp_seq (ev_pair2 (d1 := .int ((rowAt B.rows i).t : Nat)) (d2 := .tup ((rowAt B.rows i).cs.map Cell.d)) (ev_ixv (ev_at 2 (ev_var rfl) rfl) (ev_var rfl) (row_get hr)) ?_)
  refine wp_ret (ev_tup (ea_two (ev_var rfl) (ev_sl (ev_var rfl) eo_none (eo_some (ev_at 1 (ev_ixv (ev_at 0 (ev_var rfl) rfl) (ev_var rfl) (tab_get hlt)) rfl)) rs_tup)) (sm rfl)) ?_
  rw [cut_take]
  exact (key_d B.tabs _).symm
section
variable {F : Fx} {ρ ρ1 ρ2 : Ro} {to te : TE} {t : TA} {tabs : List Tab} {r : Rule} {row o : Row} {rows : List Row} {d : Dt} {xs : List Dt} {b : Bool} {i : Nat} {c : TT} {Φ : Pd}
theorem ev_bars (h : Ev F to ρ r.o ρ1) (ha : EvA F t ρ1 [row.d] ρ2) (h1 : r.Ok tabs) (h2 : row.Ok tabs) :
    Ev F (tEither (tMeth (F.cl 0) "bars" (sp_bars_Never F.K F.cl) [] E0 to t) (tEither (tMeth (F.cl 1) "bars" (sp_bars_Apart F.K F.cl) [] E0 to t) (tMeth (F.cl 2) "bars" (sp_bars_Tie F.K F.cl) [] E0 to t))) ρ (.bl (barsV r row)) ρ2 := by
  cases r with
  | never a ts => exact ev_left (ev_meth (k := 0) h ha (by decide +kernel) ⟨(tabs, .never a ts, row), ⟨rfl, h1, h2⟩, rfl, rfl⟩)
  | apart a u ts => exact ev_right (ev_left (ev_meth (k := 1) h ha (by decide +kernel) ⟨(tabs, .apart a u ts, row), ⟨rfl, h1, h2⟩, rfl, rfl⟩))
  | tie a cs u ds => exact ev_right (ev_right (ev_meth (k := 2) h ha (by decide +kernel) ⟨(tabs, .tie a cs u ds, row), ⟨rfl, h1, h2⟩, rfl, rfl⟩))
theorem ev_parts (h : Ev F to ρ r.o ρ1) (ha : EvA F t ρ1 [row.d, o.d] ρ2) (h1 : r.Ok tabs) (h2 : row.Ok tabs) (h3 : o.Ok tabs) :
    Ev F (tEither (tMeth (F.cl 0) "parts_them" (sp_parts_them_Never F.K F.cl) [] E0 to t) (tEither (tMeth (F.cl 1) "parts_them" (sp_parts_them_Apart F.K F.cl) [] E0 to t) (tMeth (F.cl 2) "parts_them" (sp_parts_them_Tie F.K F.cl) [] E0 to t))) ρ (.bl (partsV r row o)) ρ2 := by
  cases r with
  | never a ts => exact ev_left (ev_meth (k := 0) h ha (by decide +kernel) ⟨(tabs, .never a ts, row, o), ⟨rfl, h1, h2, h3⟩, rfl, rfl⟩)
  | apart a u ts => exact ev_right (ev_left (ev_meth (k := 1) h ha (by decide +kernel) ⟨(tabs, .apart a u ts, row, o), ⟨rfl, h1, h2, h3⟩, rfl, rfl⟩))
  | tie a cs u ds => exact ev_right (ev_right (ev_meth (k := 2) h ha (by decide +kernel) ⟨(tabs, .tie a cs u ds, row, o), ⟨rfl, h1, h2, h3⟩, rfl, rfl⟩))
theorem ev_lacks (h : Ev F to ρ r.o ρ1) (ha : EvA F t ρ1 [row.d, rowsO rows] ρ2) (h1 : r.Ok tabs) (h2 : row.Ok tabs) (h3 : ∀ o ∈ rows, o.Ok tabs) :
    Ev F (tEither (tMeth (F.cl 0) "lacks" (sp_lacks_Never F.K F.cl) [] E0 to t) (tEither (tMeth (F.cl 1) "lacks" (sp_lacks_Apart F.K F.cl) [] E0 to t) (tMeth (F.cl 2) "lacks" (sp_lacks_Tie F.K F.cl) [] E0 to t))) ρ (.bl (lacksV r row rows)) ρ2 := by
  cases r with
  | never a ts => exact ev_left (ev_meth (k := 0) h ha (by decide +kernel) ⟨(tabs, .never a ts, row, rows), ⟨rfl, h1, h2, h3⟩, rfl, rfl⟩)
  | apart a u ts => exact ev_right (ev_left (ev_meth (k := 1) h ha (by decide +kernel) ⟨(tabs, .apart a u ts, row, rows), ⟨rfl, h1, h2, h3⟩, rfl, rfl⟩))
  | tie a cs u ds => exact ev_right (ev_right (ev_meth (k := 2) h ha (by decide +kernel) ⟨(tabs, .tie a cs u ds, row, rows), ⟨rfl, h1, h2, h3⟩, rfl, rfl⟩))
theorem set_self {ρ : Ro} {i : Nat} {s : Sl} (h : ρ[i]? = some s) : ρ.set i s = ρ := by
  obtain ⟨hl, e⟩ := List.getElem?_eq_some_iff.mp h
  rw [← e]
  exact List.set_getElem_self hl
theorem wp_appIf (hc : EvT F c ρ b ρ) (he : Ev F te ρ d ρ) (hi : ρ[i]? = some (.ow (.ls xs))) (hl : xs.length < 100000) (k : Φ.nx (ρ.set i (.ow (.ls (xs ++ if b then [d] else []))))) :
    Wp F (tIfS c (tDrop (tBM F.K "list" rAppend (tVar i) (tCons te tNil))) tNext) ρ Φ := by
  refine wp_if hc (fun e => ?_) fun e => ?_
  · rw [e] at k
    exact wp_app he hi hi hl k
  · rw [e] at k
    refine wp_next ?_
    have k : Φ.nx (ρ.set i (.ow (.ls (xs ++ [])))) := k
    rw [List.append_nil, set_self hi] at k
    exact k
end
theorem enumD_map {α : Type} (l : List α) (e : α → Dt) : enumD (l.map e) = l.zipIdx.map fun q => .tup [natD q.2, e q.1] := by
  unfold enumD
  rw [List.zipIdx_map, List.map_map]
  rfl
theorem zip_mem {α : Type} {l : List α} {q : α × Nat} (h : q ∈ l.zipIdx) : l[q.2]? = some q.1 := by
  have := List.mem_zipIdx_iff_getElem?.mp h
  exact this
theorem flat_snoc {α β : Type} (f : α → List β) (pre : List α) (x : α) : (pre ++ [x]).flatMap f = pre.flatMap f ++ f x := by
  rw [List.flatMap_append, List.flatMap_cons, List.flatMap_nil, List.append_nil]
def aloneB (B : Book) (rows : List Nat) (i : Nat) (q : Rule × Nat) : List Dt :=
  (if barsV q.1 (rowAt B.rows i) then [.tup [.str "never", natD i, natD q.2]] else []) ++ if lacksV q.1 (rowAt B.rows i) (rows.map (rowAt B.rows)) then [.tup [.str "tie", natD i, natD q.2]] else []
theorem aloneB_len (B : Book) (rows : List Nat) (i : Nat) (q : Rule × Nat) : (aloneB B rows i q).length ≤ 2 := by
  unfold aloneB
  rw [List.length_append]
  split <;> split <;> simp
theorem flat_len {α β : Type} (f : α → List β) (n : Nat) (h : ∀ x, (f x).length ≤ n) : ∀ l : List α, (l.flatMap f).length ≤ n * l.length
  | [] => Nat.zero_le _
  | x :: l => by
    rw [List.flatMap_cons, List.length_append, List.length_cons, Nat.mul_add]
    have h1 := h x
    have h2 := flat_len f n h l
    omega
theorem rows_lc {F : Fx} {ρ : Ro} {B : Book} {l : List Nat} {k v : Nat} {wi : TI} (hi : EvI F wi ρ (l.map natD) ρ) (hk : k ≠ v) (hv : Clean ρ [v]) (hr : ρ[k]? = some (.im B.d)) (hlv : v < ρ.length) (hl : l.length ≤ 10) (hin : ∀ i ∈ l, i < B.rows.length) :
    Ev F (tLc wi (gName v) tYes (tOp (rIxT F.K) (tOp (rIxT F.K) (tVar k) (tC (.int 2))) (tVar v)) [v]) ρ (rowsO (l.map (rowAt B.rows))) ρ := by
  have lc := ev_lcA (F := F) (vs := [v]) (g := gName v) (te := tOp (rIxT F.K) (tOp (rIxT F.K) (tVar k) (tC (.int 2))) (tVar v)) l natD (fun i => (rowAt B.rows i).d) hi (by omega) hv fun B' G i hm =>
    ⟨[v], _, fun k hk => hk, tg_name, ev_ixv (ev_at 2 (d := rowsD B.rows) (ev_var (d := B.d) (by
      show ((ρ.set v .no).set v _)[k]? = _
      rw [List.getElem?_set_ne (Ne.symm hk), List.getElem?_set_ne (Ne.symm hk), hr])) rfl) (ev_var (d := natD i) (by
      show ((ρ.set v .no).set v _)[v]? = _
      rw [List.getElem?_set_self (by rw [List.length_set]; exact hlv)])) (row_get (rowAt_get (hin i hm))), by
      show ((ρ.set v .no).set v _).set v .no = ρ.set v .no
      rw [List.set_set, List.set_set]⟩
  unfold rowsO
  rw [List.map_map]
  exact lc
theorem wp_alone_breaks (F : Fx) (ds : List Dt) (d : Dt) (r : R_alone_breaks ds d) : Wp F (t_alone_breaks F.K F.cl) (ro0 ["book", "rules", "rows", "some", "there", "i", "k", "rule"] ds) (endP d) := by
  obtain ⟨⟨B, rows⟩, ⟨hB, hl, hin⟩, rfl, rfl⟩ := r
  have hl : rows.length ≤ 10 := hl
  have hin : ∀ i ∈ rows, i < B.rows.length := hin
  have hok : ∀ i ∈ rows, (rowAt B.rows i).Ok B.tabs := fun i hi => hB.row _ (List.mem_of_getElem? (rowAt_get (hin i hi)))
  have bd1 : ∀ (i : Nat) (qs : List (Rule × Nat)), (qs.flatMap (aloneB B rows i)).length ≤ 2 * qs.length := fun i qs => flat_len _ 2 (aloneB_len B rows i) qs
  have bd2 : ∀ pre : List Nat, (pre.flatMap fun i => B.rules.zipIdx.flatMap (aloneB B rows i)).length ≤ (2 * B.rules.length) * pre.length := fun pre => flat_len _ _ (fun i => by
    have := bd1 i B.rules.zipIdx
    rwa [List.length_zipIdx] at this) pre
  have h6 : B.rules.length ≤ 6 := hB.r6
  refine wp_seq (wp_newL ea_nil (sm rfl) ?_)
  refine wp_seq (wp_set (rows_lc (k := 0) (v := 5) (B := B) (l := rows) (ei_tup (ev_var rfl)) (by decide) (clean1 (.inl rfl)) rfl (by show 5 < 8; decide) hl hin) ?_)
  refine wp_seq (wp_forL rows natD [5, 6, 7] (fun pre => [.im B.d, .im (rulesO B.rules), .im (natsT rows), .ow (.ls (pre.flatMap fun i => B.rules.zipIdx.flatMap (aloneB B rows i))), .im (rowsO (rows.map (rowAt B.rows))), .no, .no, .no]) (fun _ => True) (ei_tup (ev_var rfl)) rfl trivial (fun pre i post eq _ => ⟨[5], _, tg_name, ?_⟩) fun _ => ?_)
  · have hmem : i ∈ rows := by
      rw [eq]
      exact List.mem_append.mpr (.inr List.mem_cons_self)
    have hpre : pre.length ≤ 10 := by
      have := congrArg List.length eq
      rw [List.length_append] at this
      omega
    refine wp_forL B.rules.zipIdx (fun q => .tup [natD q.2, q.1.o]) [6, 7] (fun qs => [.im B.d, .im (rulesO B.rules), .im (natsT rows), .ow (.ls ((pre.flatMap fun i => B.rules.zipIdx.flatMap (aloneB B rows i)) ++ qs.flatMap (aloneB B rows i))), .im (rowsO (rows.map (rowAt B.rows))), .im (natD i), .no, .no]) (fun _ => True)
      (by rw [← enumD_map]; exact ei_enum (ea_one (ev_var rfl))) (by rw [List.flatMap_nil, List.append_nil]; rfl) trivial (fun qs q post2 eq2 _ => ⟨[6, 7], _, tg_tup rfl (tgs_cons tg_name (tgs_cons tg_name tgs_nil)), ?_⟩) fun _ => ⟨trivial, ?_⟩
    · have hq : q ∈ B.rules.zipIdx := by
        rw [eq2]
        exact List.mem_append.mpr (.inr List.mem_cons_self)
      have hqs : qs.length ≤ 6 := by
        have := congrArg List.length eq2
        rw [List.length_append, List.length_zipIdx] at this
        omega
      have hr : q.1.Ok B.tabs := hB.rule _ (List.mem_of_getElem? (zip_mem hq))
      have b1 := bd1 i qs
      have b2 := bd2 pre
      have b3 : (2 * B.rules.length) * pre.length ≤ 12 * 10 := Nat.mul_le_mul (by omega) hpre
      refine wp_seq (wp_appIf (b := barsV q.1 (rowAt B.rows i)) (et_B (ev_bars (r := q.1) (row := rowAt B.rows i) (ev_var rfl) (ea_one (ev_ixv (ev_at 2 (ev_var rfl) rfl) (ev_var rfl) (row_get (rowAt_get (hin i hmem))))) hr (hok i hmem)))
        (ev_tup (ea_cons ev_str (ea_two (ev_var rfl) (ev_var rfl))) (sm rfl)) rfl (by rw [List.length_append]; omega) ?_)
      refine wp_appIf (b := lacksV q.1 (rowAt B.rows i) (rows.map (rowAt B.rows))) (et_B (ev_lacks (r := q.1) (row := rowAt B.rows i) (rows := rows.map (rowAt B.rows)) (ev_var rfl) (ea_two (ev_ixv (ev_at 2 (ev_var rfl) rfl) (ev_var rfl) (row_get (rowAt_get (hin i hmem)))) (ev_var rfl)) hr (hok i hmem) fun o ho => by
          obtain ⟨j, hj, rfl⟩ := List.mem_map.mp ho
          exact hok j hj))
        (ev_tup (ea_cons ev_str (ea_two (ev_var rfl) (ev_var rfl))) (sm rfl)) rfl (by
          rw [List.length_append, List.length_append]
          have : (if barsV q.1 (rowAt B.rows i) = true then [Dt.tup [.str "never", natD i, natD q.2]] else []).length ≤ 1 := by split <;> simp
          show _ + _ + List.length (if _ then [Dt.tup [.str "never", natD i, natD q.2]] else []) < _
          omega) ⟨trivial, ?_⟩
      rw [flat_snoc, aloneB, ← List.append_assoc, ← List.append_assoc]
      rfl
    · rw [flat_snoc]
      rfl
  · exact wp_ret (ev_freeze rfl) rfl
theorem pair_flat (B : Book) (rows : List Nat) (i j : Nat) (qs : List (Rule × Nat)) : (qs.flatMap fun q => if pairRuleB B q.1 i j then [(⟨"apart", i, j, some q.2⟩ : Brk)] else []).length ≤ 1 * qs.length := flat_len _ 1 (fun q => by split <;> simp) qs
def pairB (B : Book) (i j : Nat) (qs : List (Rule × Nat)) : List Brk := (if pairKeyB B i j then [⟨"key", i, j, none⟩] else []) ++ qs.flatMap fun q => if pairRuleB B q.1 i j then [⟨"apart", i, j, some q.2⟩] else []
theorem pairB_len (B : Book) (i j : Nat) (qs : List (Rule × Nat)) : (pairB B i j qs).length ≤ 1 + qs.length := by
  unfold pairB
  rw [List.length_append]
  have h1 := pair_flat B [] i j qs
  have h2 : (if pairKeyB B i j then [(⟨"key", i, j, none⟩ : Brk)] else []).length ≤ 1 := by split <;> simp
  omega
theorem key_ok {B : Book} {i : Nat} (hB : B.Ok) (hi : i < B.rows.length) : ∀ c ∈ (keyAt B i).cs, c.Ok := fun c hc => (hB.row _ (List.mem_of_getElem? (rowAt_get hi))).cells c (List.mem_of_mem_take hc)
theorem wp_pair_breaks (F : Fx) (ds : List Dt) (d : Dt) (r : R_pair_breaks ds d) : Wp F (t_pair_breaks F.K F.cl) (ro0 ["book", "rules", "rows", "some", "i", "j", "k", "rule"] ds) (endP d) := by
  obtain ⟨⟨B, rows⟩, ⟨hB, hl, hin⟩, rfl, rfl⟩ := r
  have hB : B.Ok := hB
  have hl : rows.length ≤ 10 := hl
  have hin : ∀ i ∈ rows, i < B.rows.length := hin
  have hok : ∀ i ∈ rows, (rowAt B.rows i).Ok B.tabs := fun i hi => hB.row _ (List.mem_of_getElem? (rowAt_get (hin i hi)))
  have h6 := hB.r6
  have bd0 : ∀ i j, (pairB B i j B.rules.zipIdx).length ≤ 7 := fun i j => by
    have := pairB_len B i j B.rules.zipIdx
    rw [List.length_zipIdx] at this
    omega
  have bd1 : ∀ (i : Nat) (js : List Nat), (js.flatMap fun j => pairB B i j B.rules.zipIdx).length ≤ 7 * js.length := fun i js => flat_len _ 7 (fun j => bd0 i j) js
  have bd2 : ∀ pre : List Nat, (pre.flatMap fun i => rows.flatMap fun j => pairB B i j B.rules.zipIdx).length ≤ 70 * pre.length := fun pre => flat_len _ 70 (fun i => by
    have := bd1 i rows
    omega) pre
  refine wp_seq (wp_newL ea_nil (sm rfl) ?_)
  refine wp_seq (wp_forL rows natD [4, 5, 6, 7] (fun pre => [.im B.d, .im (rulesO B.rules), .im (natsT rows), .ow (.ls ((pre.flatMap fun i => rows.flatMap fun j => pairB B i j B.rules.zipIdx).map Brk.d)), .no, .no, .no, .no]) (fun _ => True) (ei_tup (ev_var rfl)) rfl trivial (fun pre i post eq _ => ⟨[4], _, tg_name, ?_⟩) fun _ => ?_)
  · have hmem : i ∈ rows := by
      rw [eq]
      exact List.mem_append.mpr (.inr List.mem_cons_self)
    have hpre : pre.length ≤ 10 := by
      have := congrArg List.length eq
      rw [List.length_append] at this
      omega
    refine wp_forL rows natD [5, 6, 7] (fun js => [.im B.d, .im (rulesO B.rules), .im (natsT rows), .ow (.ls (((pre.flatMap fun i => rows.flatMap fun j => pairB B i j B.rules.zipIdx) ++ js.flatMap fun j => pairB B i j B.rules.zipIdx).map Brk.d)), .im (natD i), .no, .no, .no]) (fun _ => True)
      (ei_tup (ev_var rfl)) (by rw [List.flatMap_nil, List.append_nil]; rfl) trivial (fun js j post2 eq2 _ => ⟨[5], _, tg_name, ?_⟩) fun _ => ⟨trivial, ?_⟩
    · have hmem2 : j ∈ rows := by
        rw [eq2]
        exact List.mem_append.mpr (.inr List.mem_cons_self)
      have hjs : js.length ≤ 10 := by
        have := congrArg List.length eq2
        rw [List.length_append] at this
        omega
      have b1 := bd1 i js
      have b2 := bd2 pre
      refine wp_seq (wp_appIf (b := pairKeyB B i j) (et_and (et_test (ev_op (ev_var rfl) (ev_var rfl) rv_ltN)) fun _ => et_test (ev_op (ev_call (ea_two (ev_var rfl) (ev_var rfl)) ⟨(B, i), ⟨hB, hin i hmem⟩, rfl, rfl⟩) (ev_call (ea_two (ev_var rfl) (ev_var rfl)) ⟨(B, j), ⟨hB, hin j hmem2⟩, rfl, rfl⟩)
          (rv_eqD (nice_row (key_ok hB (hin i hmem))) (nice_row (key_ok hB (hin j hmem2))) (by decide) (by
            rw [decide_eq_true_iff]
            exact ⟨fun z => congrArg Row.d z, fun z => Row.d_inj _ _ z⟩))))
        (ev_tup (ea_cons ev_str (ea_two (ev_var rfl) (ev_var rfl))) (sm rfl)) rfl (by rw [List.length_map, List.length_append]; omega) ?_)
      refine wp_forL B.rules.zipIdx (fun q => .tup [natD q.2, q.1.o]) [6, 7] (fun qs => [.im B.d, .im (rulesO B.rules), .im (natsT rows), .ow (.ls (((pre.flatMap fun i => rows.flatMap fun j => pairB B i j B.rules.zipIdx) ++ (js.flatMap fun j => pairB B i j B.rules.zipIdx) ++ pairB B i j qs).map Brk.d)), .im (natD i), .im (natD j), .no, .no]) (fun _ => True)
        (by rw [← enumD_map]; exact ei_enum (ea_one (ev_var rfl))) ?_ trivial (fun qs q post3 eq3 _ => ⟨[6, 7], _, tg_tup rfl (tgs_cons tg_name (tgs_cons tg_name tgs_nil)), ?_⟩) fun _ => ⟨trivial, ?_⟩
      · show [_, _, _, _, _, _, _, _] = _
        unfold pairB
        rw [List.flatMap_nil, List.append_nil, List.map_append (l₂ := if pairKeyB B i j = true then _ else _)]
        congr 4
        congr 3
        cases pairKeyB B i j <;> rfl
      · have hq : q ∈ B.rules.zipIdx := by
          rw [eq3]
          exact List.mem_append.mpr (.inr List.mem_cons_self)
        have hqs : qs.length ≤ 6 := by
          have := congrArg List.length eq3
          rw [List.length_append, List.length_zipIdx] at this
          omega
        have hr : q.1.Ok B.tabs := hB.rule _ (List.mem_of_getElem? (zip_mem hq))
        have b3 := pairB_len B i j qs
        refine wp_appIf (b := pairRuleB B q.1 i j) (et_and (et_test (ev_op (ev_var rfl) (ev_var rfl) rv_ltN)) fun _ => et_B (ev_parts (r := q.1) (row := rowAt B.rows i) (o := rowAt B.rows j) (ev_var rfl)
            (ea_two (ev_ixv (ev_at 2 (ev_var rfl) rfl) (ev_var rfl) (row_get (rowAt_get (hin i hmem)))) (ev_ixv (ev_at 2 (ev_var rfl) rfl) (ev_var rfl) (row_get (rowAt_get (hin j hmem2))))) hr (hok i hmem) (hok j hmem2)))
          (ev_tup (ea_cons ev_str (ea_cons (ev_var rfl) (ea_two (ev_var rfl) (ev_var rfl)))) (sm rfl)) rfl (by rw [List.length_map, List.length_append, List.length_append]; omega) ⟨trivial, ?_⟩
        show [_, _, _, _, _, _, _, _] = _
        have e : pairB B i j (qs ++ [q]) = pairB B i j qs ++ if pairRuleB B q.1 i j then [⟨"apart", i, j, some q.2⟩] else [] := by
          unfold pairB
          rw [flat_snoc, List.append_assoc]
        rw [e, ← List.append_assoc, List.map_append (l₂ := if pairRuleB B q.1 i j = true then _ else _)]
        congr 4
        congr 3
        cases pairRuleB B q.1 i j <;> rfl
      · show [_, _, _, _, _, _, _, _] = _
        rw [flat_snoc, List.append_assoc]
    · rw [flat_snoc]
      rfl
  · exact wp_ret (ev_freeze rfl) rfl
end Md
namespace Md
open PySem PySem.Spec PyProof.Rows L2 PySem.W
def BrkD (d : Dt) : Prop := ∃ (w : Str) (ns : List Int), PyData.strOk w = true ∧ d = .tup (.str w :: ns.map .int)
theorem brk_nice {d : Dt} (h : BrkD d) : Nice 1 d := by
  obtain ⟨w, ns, hw, rfl⟩ := h
  refine .tup fun x hx => ?_
  rcases List.mem_cons.mp hx with e | hx
  · rw [e]
    exact .str hw
  · obtain ⟨i, _, rfl⟩ := List.mem_map.mp hx
    exact .int i
theorem brk_alike {d e : Dt} (h : BrkD d) (g : BrkD e) : alike d.py e.py = true := by
  obtain ⟨w, ns, hw, rfl⟩ := h
  obtain ⟨w', ns', hw', rfl⟩ := g
  rw [Dt.py, Dt.py, pys_map, pys_map, List.map_cons, List.map_cons, List.map_map, List.map_map, alike, alikeAll]
  rw [show alike (Dt.str w).py (Dt.str w').py = true by rw [Dt.py, Dt.py, alike]]
  exact alike_ints ns ns'
theorem alone_brk {B : Book} {rows : List Nat} : ∀ d ∈ aloneV B rows, BrkD d := fun d hd => by
  obtain ⟨i, _, hd⟩ := List.mem_flatMap.mp hd
  obtain ⟨q, _, hd⟩ := List.mem_flatMap.mp hd
  rcases List.mem_append.mp hd with hd | hd
  · split at hd
    · rw [List.mem_singleton.mp hd]
      exact ⟨"never", [(i : Int), (q.2 : Int)], by decide +kernel, rfl⟩
    · cases hd
  · split at hd
    · rw [List.mem_singleton.mp hd]
      exact ⟨"tie", [(i : Int), (q.2 : Int)], by decide +kernel, rfl⟩
    · cases hd
theorem pair_brk {B : Book} {rows : List Nat} : ∀ d ∈ (pairV B rows).map Brk.d, BrkD d := fun d hd => by
  obtain ⟨b, hb, rfl⟩ := List.mem_map.mp hd
  obtain ⟨i, _, hd⟩ := List.mem_flatMap.mp hb
  obtain ⟨j, _, hd⟩ := List.mem_flatMap.mp hd
  rcases List.mem_append.mp hd with hd | hd
  · split at hd
    · rw [List.mem_singleton.mp hd]
      exact ⟨"key", [(i : Int), (j : Int)], by decide +kernel, rfl⟩
    · cases hd
  · obtain ⟨q, _, hd⟩ := List.mem_flatMap.mp hd
    split at hd
    · rw [List.mem_singleton.mp hd]
      exact ⟨"apart", [(i : Int), (j : Int), (q.2 : Int)], by decide +kernel, rfl⟩
    · cases hd
theorem alone_len {B : Book} {rows : List Nat} (h : B.rules.length ≤ 6) (hl : rows.length ≤ 10) : (aloneV B rows).length ≤ 120 := by
  have h1 : (rows.flatMap fun i => B.rules.zipIdx.flatMap (aloneB B rows i)).length ≤ 12 * rows.length := flat_len _ 12 (fun i => by
    have := flat_len _ 2 (aloneB_len B rows i) B.rules.zipIdx
    rw [List.length_zipIdx] at this
    omega) rows
  have h1 : (aloneV B rows).length ≤ 12 * rows.length := h1
  omega
theorem pair_len {B : Book} {rows : List Nat} (h : B.rules.length ≤ 6) (hl : rows.length ≤ 10) : (pairV B rows).length ≤ 700 := by
  have bd0 : ∀ i j, (pairB B i j B.rules.zipIdx).length ≤ 7 := fun i j => by
    have := pairB_len B i j B.rules.zipIdx
    rw [List.length_zipIdx] at this
    omega
  have h1 : (rows.flatMap fun i => rows.flatMap fun j => pairB B i j B.rules.zipIdx).length ≤ 70 * rows.length := flat_len _ 70 (fun i => by
    have := flat_len _ 7 (fun j => bd0 i j) rows
    omega) rows
  have h1 : (pairV B rows).length ≤ 70 * rows.length := h1
  omega
theorem wp_breaks (F : Fx) (ds : List Dt) (d : Dt) (r : R_breaks ds d) : Wp F (t_breaks F.K F.cl) (ro0 ["book", "rows", "rules"] ds) (endP d) := by
  obtain ⟨⟨B, rows⟩, hR, rfl, rfl⟩ := r
  have hR : RowsIn B rows := hR
  have h6 : B.rules.length ≤ 6 := hR.1.r6
  have b1 := alone_len (rows := rows) h6 hR.2.1
  have b2 := pair_len (rows := rows) h6 hR.2.1
  have hb : ∀ d ∈ aloneV B rows ++ (pairV B rows).map Brk.d, BrkD d := fun d hd => (List.mem_append.mp hd).elim (alone_brk d) (pair_brk d)
  refine wp_seq (wp_set (ev_call (ea_one (ev_var rfl)) ⟨B, by omega, rfl, rfl⟩) ?_)
  have b3 : (aloneV B rows).length + ((pairV B rows).map Brk.d).length ≤ 100000 := by
    rw [List.length_map]
    omega
  refine wp_ret (ev_CB (ea_one (ev_op (ev_call (ea_cons (ev_var rfl) (ea_two (ev_var rfl) (ev_var rfl))) ⟨(B, rows), hR, rfl, rfl⟩) (ev_call (ea_cons (ev_var rfl) (ea_two (ev_var rfl) (ev_var rfl))) ⟨(B, rows), hR, rfl, rfl⟩) (rv_catL b3)))
    (rc_sort (n := 1) (fun d hd => brk_nice (hb d hd)) (by decide) (allAlike_of fun d hd e he => brk_alike (hb d hd) (hb e he)) (.inl (sortable_tup fun d hd => by
      obtain ⟨w, ns, _, rfl⟩ := hb d hd
      exact ⟨_, _, rfl⟩)))) rfl
theorem wp_good (F : Fx) (ds : List Dt) (d : Dt) (r : R_good ds d) : Wp F (t_good F.K F.cl) (ro0 ["book", "rows"] ds) (endP d) := by
  obtain ⟨⟨B, rows⟩, hR, rfl, rfl⟩ := r
  have hR : RowsIn B rows := hR
  have hb : ∀ d ∈ breaksV B rows, BrkD d := fun d hd => (List.mem_append.mp ((sortD_perm _).mem_iff.mp hd)).elim (alone_brk d) (pair_brk d)
  refine wp_ret (ev_op (ev_call (ea_two (ev_var rfl) (ev_var rfl)) ⟨(B, rows), hR, rfl, rfl⟩) (ev_lst ea_nil (sm rfl)) (rv_eqD (n := 2) (.lst fun d hd => brk_nice (hb d hd)) (.lst fun d hd => nomatch hd) (by decide) (b := goodV B rows) ?_)) rfl
  show goodV B rows = true ↔ Dt.lst (breaksV B rows) = Dt.lst []
  rw [Dt.lst.injEq, goodV, Bool.and_eq_true, List.isEmpty_iff, List.isEmpty_iff]
  constructor
  · rintro ⟨e1, e2⟩
    rw [breaksV, e1, e2]
    exact (sortD_perm []).eq_nil
  · intro e
    have p := sortD_perm (aloneV B rows ++ (pairV B rows).map Brk.d)
    have e : sortD (aloneV B rows ++ (pairV B rows).map Brk.d) = [] := e
    rw [e] at p
    have q := List.append_eq_nil_iff.mp p.symm.eq_nil
    exact ⟨q.1, List.map_eq_nil_iff.mp q.2⟩
theorem et_anyR {F : Fx} {ρ : Ro} {te : TE} {k v : Nat} {rules : List Rule} (f : Rule → Bool) (hk : ρ[k]? = some (.im (rulesO rules))) (hv : Clean ρ [v]) (hl : rules.length < 1000)
    (hx : ∀ (B' : Addr → Bool) (G : Hp) (r : Rule), r ∈ rules → Ev (pin F B' G) te (ρ.set v (.im r.o)) (.bl (f r)) (ρ.set v (.im r.o))) : EvT F (tB (tCB (rAny F.K) (tCons (tLc (iList F.K (tVar k)) (gName v) tYes te [v]) tNil))) ρ (rules.any f) ρ := by
  have lc := ev_lcA (F := F) (ρ := ρ) (vs := [v]) (g := gName v) (te := te) rules Rule.o (fun r => .bl (f r)) (ei_list (ev_var hk)) (by omega) hv fun B' G r hr =>
    ⟨[v], ρ.set v (.im r.o), fun k hk => hk, by
      have z := tg_name (F := pin F B' G) (i := v) (d := r.o) (ρ := wipeR ρ [v])
      rw [show (wipeR ρ [v]).set v (.im r.o) = ρ.set v (.im r.o) from List.set_set ..] at z
      exact z, hx B' G r hr, by
      show (ρ.set v _).set v .no = ρ.set v .no
      rw [List.set_set]⟩
  have e : rules.map (fun r => Dt.bl (f r)) = (rules.map f).map .bl := by rw [List.map_map]; rfl
  rw [e] at lc
  refine et_is (et_B (ev_CB (ea_one lc) rc_any)) ?_
  rw [List.any_map]
  rfl
theorem ev_lenN {F : Fx} {te : TE} {ρ ρ1 : Ro} {l : List Nat} (h : Ev F te ρ (natsL l) ρ1) : Ev F (tCB (rLen F.K) (tCons te tNil)) ρ (natD l.length) ρ1 := by
  have z := ev_len h (.inl rfl)
  rwa [List.length_map] at z
theorem ev_lenT {F : Fx} {te : TE} {ρ ρ1 : Ro} {l : List Nat} (h : Ev F te ρ (natsT l) ρ1) : Ev F (tCB (rLen F.K) (tCons te tNil)) ρ (natD l.length) ρ1 := by
  have z := ev_len h (.inr rfl)
  rwa [List.length_map] at z
theorem left_len (B : Book) (l : List Nat) : (leftStep B l).length ≤ l.length := List.length_filter_le ..
theorem filter_nats {F : Fx} {wi : TI} {ρ : Ro} {tt : TT} {v : Nat} {l : List Nat} (p : Nat → Bool) (hi : EvI F wi ρ (l.map natD) ρ) (hv : Clean ρ [v]) (hl : l.length < 1000) (hlv : v < ρ.length)
    (hx : ∀ (B' : Addr → Bool) (G : Hp) (i : Nat), i ∈ l → EvT (pin F B' G) tt (ρ.set v (.im (natD i))) (p i) (ρ.set v (.im (natD i)))) : Ev F (tLc wi (gName v) tt (tVar v) [v]) ρ (natsL (l.filter p)) ρ := by
  exact ev_lcM (F := F) (vs := [v]) (g := gName v) (te := tVar v) (tt := tt) l natD p natD hi (by omega) hv fun B' G i hm =>
    ⟨[v], ρ.set v (.im (natD i)), fun k hk => hk, by
      have z := tg_name (F := pin F B' G) (i := v) (d := natD i) (ρ := wipeR ρ [v])
      rw [show (wipeR ρ [v]).set v (.im (natD i)) = ρ.set v (.im (natD i)) from List.set_set ..] at z
      exact z, hx B' G i hm, fun _ => ev_var (by rw [List.getElem?_set_self hlv]), by
      show (ρ.set v _).set v .no = ρ.set v .no
      rw [List.set_set]⟩
theorem wp_held (F : Fx) (ds : List Dt) (d : Dt) (r : R_held ds d) : Wp F (t_held F.K F.cl) (ro0 ["book", "rows", "rules", "left", "i", "rule", "size", "there"] ds) (endP d) := by
  obtain ⟨⟨B, rows⟩, hR, rfl, rfl⟩ := r
  have hR : RowsIn B rows := hR
  have hB : B.Ok := hR.1
  have hl : rows.length ≤ 10 := hR.2.1
  have hin : ∀ i ∈ rows, i < B.rows.length := hR.2.2
  have h6 : B.rules.length ≤ 6 := hB.r6
  have hok : ∀ i, i < B.rows.length → (rowAt B.rows i).Ok B.tabs := fun i hi => hB.row _ (List.mem_of_getElem? (rowAt_get hi))
  refine wp_seq (wp_set (ev_call (ea_one (ev_var rfl)) ⟨B, by omega, rfl, rfl⟩) ?_)
  refine wp_seq (wp_set (filter_nats (v := 4) (l := rows) (fun i => !(B.rules.any fun r => barsV r (rowAt B.rows i))) (ei_tup (ev_var rfl)) (clean1 (.inl rfl)) (by omega) (by show 4 < 8; decide) fun B' G i hi =>
    et_not (et_anyR (k := 2) (v := 5) (rules := B.rules) (fun r => barsV r (rowAt B.rows i)) rfl (clean1 (.inl rfl)) (by omega) fun B2 G2 r hr =>
      ev_bars (r := r) (row := rowAt B.rows i) (tabs := B.tabs) (ev_var rfl) (ea_one (ev_ixv (ev_at 2 (d := rowsD B.rows) (ev_var (d := B.d) rfl) rfl) (ev_var rfl) (row_get (rowAt_get (hin i hi))))) (hB.rule r hr) (hok i (hin i hi)))) ?_)
  refine wp_seq (wp_set (ev_neg ev_int) ?_)
  let fin := heldV B rows
  refine wp_seq (wp_while (fun m ρ' => ∃ (l : List Nat) (size : Int) (s : Sl), ρ' = [.im B.d, .im (natsT rows), .im (rulesO B.rules), .im (natsL l), .no, .no, .im (.int size), s] ∧ l.length ≤ 10 ∧ (∀ i ∈ l, i < B.rows.length) ∧
    (size = ((l.length : Nat) : Int) → l = fin) ∧ (¬ size = ((l.length : Nat) : Int) → ∃ n, heldGo B n l = fin ∧ l.length < n) ∧ m = l.length + if size = ((l.length : Nat) : Int) then 0 else 1) _ ⟨left0 B rows, -1, .no, rfl, ?_, ?_, ?_, ?_, rfl⟩ ?_)
  · exact Nat.le_trans (List.length_filter_le ..) hl
  · intro i hi
    exact hin i (List.mem_filter.mp hi).1
  · intro e
    omega
  · intro _
    refine ⟨rows.length + 1, rfl, ?_⟩
    have : (left0 B rows).length ≤ rows.length := List.length_filter_le ..
    omega
  · rintro m ρ' ⟨l, size, s, rfl, hl2, hin2, k1, k2, rfl⟩
    refine ⟨_, _, et_test (ev_op (ev_var rfl) (ev_lenN (ev_var rfl)) rv_neI), fun e => ?_, fun e => ?_⟩
    · have hne : ¬ size = ((l.length : Nat) : Int) := by simpa using e
      obtain ⟨n, g1, g2⟩ := k2 hne
      refine wp_seq (wp_set (ev_lenN (ev_var rfl)) ?_)
      refine wp_seq (wp_set (rows_lc (k := 0) (v := 4) (B := B) (l := l) (ei_list (ev_var rfl)) (by decide) (clean1 (.inl rfl)) rfl (by show 4 < 8; decide) hl2 hin2) ?_)
      refine wp_set (filter_nats (v := 4) (l := l) (fun i => !(B.rules.any fun r => lacksV r (rowAt B.rows i) (l.map (rowAt B.rows)))) (ei_list (ev_var rfl)) (clean1 (.inl rfl)) (by omega) (by show 4 < 8; decide) fun B' G i hi =>
        et_not (et_anyR (k := 2) (v := 5) (rules := B.rules) (fun r => lacksV r (rowAt B.rows i) (l.map (rowAt B.rows))) rfl (clean1 (.inl rfl)) (by omega) fun B2 G2 r hr =>
          ev_lacks (r := r) (row := rowAt B.rows i) (rows := l.map (rowAt B.rows)) (tabs := B.tabs) (ev_var rfl) (ea_two (ev_ixv (ev_at 2 (d := rowsD B.rows) (ev_var (d := B.d) rfl) rfl) (ev_var rfl) (row_get (rowAt_get (hin2 i hi)))) (ev_var rfl)) (hB.rule r hr) (hok i (hin2 i hi)) fun o ho => by
            obtain ⟨j, hj, rfl⟩ := List.mem_map.mp ho
            exact hok j (hin2 j hj))) ?_
      have hll := left_len B l
      obtain ⟨n', rfl⟩ : ∃ n', n = n' + 1 := ⟨n - 1, by omega⟩
      rw [heldGo] at g1
      refine ⟨(leftStep B l).length + if ((l.length : Nat) : Int) = (((leftStep B l).length : Nat) : Int) then 0 else 1, ?_, leftStep B l, ((l.length : Nat) : Int), _, rfl, by omega, fun i hi => hin2 i (List.mem_filter.mp hi).1, fun z => ?_, fun z => ?_, rfl⟩
      · rw [if_neg hne]
        split <;> omega
      · rw [if_pos (by omega)] at g1
        exact g1
      · rw [if_neg (by omega)] at g1
        exact ⟨n', g1, by omega⟩
    · have he : size = ((l.length : Nat) : Int) := by simpa using e
      refine wp_ret (ev_CB (ea_one (ev_var rfl)) (rc_tuple (.inl rfl))) ?_
      show Dt.tup (l.map natD) = Dt.tup ((heldV B rows).map natD)
      rw [k1 he]
end Md
namespace Md
open PySem PySem.Spec PyProof.Rows L2 PySem.W
theorem put_setL {α κ : Type} [DecidableEq α] [DecidableEq κ] (f : α → κ) (inj : ∀ a b, f a = f b → a = b) (l : List α) (x : α) : putD (l.map fun a => (f a, Dt.bl true)) (f x) (.bl true) = (putS l x).map fun a => (f a, Dt.bl true) := by
  have hany : ((l.map fun a => (f a, Dt.bl true)).any fun kv => decide (kv.1 = f x)) = true ↔ x ∈ l := by
    rw [List.any_eq_true]
    constructor
    · rintro ⟨kv, hk, e⟩
      obtain ⟨a, ha, rfl⟩ := List.mem_map.mp hk
      rw [← inj _ _ (of_decide_eq_true e)]
      exact ha
    · intro h
      exact ⟨_, List.mem_map.mpr ⟨x, h, rfl⟩, decide_eq_true rfl⟩
  unfold putD putS
  by_cases h : x ∈ l
  · rw [if_pos (hany.mpr h), if_pos h, List.map_map]
    refine List.map_congr_left fun a _ => ?_
    show (if f a = f x then (f a, Dt.bl true) else (f a, Dt.bl true)) = _
    split <;> rfl
  · rw [if_neg (fun z => h (hany.mp z)), if_neg h, List.map_append]
    rfl
def keyP (p : Nat × Nat) : List Int := [((p.1 : Nat) : Int), ((p.2 : Nat) : Int)]
theorem keyP_inj (a b : Nat × Nat) (h : keyP a = keyP b) : a = b := by
  cases a
  cases b
  simp only [keyP, List.cons.injEq, and_true] at h
  simp only [Prod.mk.injEq]
  omega
def keysTo (bs : List Brk) : List (Nat × Nat) := bs.foldl (fun l b => putS l (b.i, b.j)) []
theorem keysTo_snoc (bs : List Brk) (b : Brk) : keysTo (bs ++ [b]) = putS (keysTo bs) (b.i, b.j) := by
  unfold keysTo
  rw [List.foldl_append]
  rfl
theorem brk_at (b : Brk) : ∃ r, b.d = .tup (.str b.w :: natD b.i :: natD b.j :: r) := ⟨_, rfl⟩
theorem rowsIn_all {B : Book} (h : B.Ok) : RowsIn B (allRows B) := ⟨h, by rw [allRows, List.length_range]; exact h.n10, fun i hi => List.mem_range.mp hi⟩
theorem rowsIn_held {B : Book} (h : B.Ok) : RowsIn B (heldV B (allRows B)) := ⟨h, Nat.le_trans (heldV_sub B _).length_le (rowsIn_all h).2.1, fun i hi => held_lt hi⟩
theorem ev_allRows {F : Fx} {te : TE} {ρ : Ro} {B : Book} (hB : B.Ok) (h : Ev F te ρ B.d ρ) : Ev F (tTupRg (tRg1 (tCB (rLen F.K) (tCons (tOp (rIxT F.K) te (tC (.int 2))) tNil)))) ρ (natsT (allRows B)) ρ := by
  have z := ev_len (ev_at 2 h rfl) (.inr rfl)
  rw [List.length_map] at z
  exact ev_tupRg z (by have := hB.n10; omega)
theorem wp_clashes (F : Fx) (ds : List Dt) (d : Dt) (r : R_clashes ds d) : Wp F (t_clashes F.K F.cl) (ro0 ["book", "pairs", "broken"] ds) (endP d) := by
  obtain ⟨B, hB, rfl, rfl⟩ := r
  have hB : B.Ok := hB
  have h6 : B.rules.length ≤ 6 := hB.r6
  have hh := rowsIn_held hB
  have hpl := pair_len (B := B) (rows := heldV B (allRows B)) h6 hh.2.1
  refine wp_seq (wp_newDt ?_)
  refine wp_seq (wp_forL (pairV B (heldV B (allRows B))) Brk.d [2] (fun pre => [.im B.d, .ow (.dt ((keysTo pre).map fun p => (keyP p, Dt.bl true))), .no]) (fun _ => True)
    (ei_list (ev_call (ea_cons (ev_var rfl) (ea_two (ev_call (ea_one (ev_var rfl)) ⟨B, by omega, rfl, rfl⟩) (ev_call (ea_two (ev_var rfl) (ev_allRows hB (ev_var rfl))) ⟨(B, allRows B), rowsIn_all hB, rfl, rfl⟩))) ⟨(B, heldV B (allRows B)), hh, rfl, rfl⟩)) rfl trivial (fun pre b post eq _ => ⟨[2], _, tg_name, ?_⟩) fun _ => ?_)
  · obtain ⟨r, hr⟩ := brk_at b
    have hlen : (keysTo pre).length ≤ 700 := by
      have z := foldPut_len (fun b : Brk => (b.i, b.j)) pre []
      have e := congrArg List.length eq
      rw [List.length_append] at e
      have z : (keysTo pre).length ≤ 0 + pre.length := z
      omega
    refine wp_putT (ks := keyP (b.i, b.j)) ev_bl (ev_tup (ea_two (ev_at 1 (ds := .str b.w :: natD b.i :: natD b.j :: r) (ev_var (congrArg (fun d => some (Sl.im d)) hr)) rfl) (ev_at 2 (ds := .str b.w :: natD b.i :: natD b.j :: r) (ev_var (congrArg (fun d => some (Sl.im d)) hr)) rfl)) (sm rfl)) rfl rfl (by rw [List.length_map]; omega) ⟨trivial, ?_⟩
    rw [put_setL keyP keyP_inj, keysTo_snoc]
    rfl
  · refine wp_ret (ev_sortOwnT rfl fun kv hk => ?_) ?_
    · obtain ⟨p, _, rfl⟩ := List.mem_map.mp hk
      exact fun z => nomatch z
    · show Dt.lst _ = Dt.lst ((clashesV B).map pairD)
      unfold clashesV
      rw [List.map_mergeSort (r := pairLe) (s := leD) (fun a _ b _ => rfl), List.map_map]
      rfl
def clashTo (ps : List (Nat × Nat)) : List Nat := ps.foldl (fun l p => putS (putS l p.1) p.2) []
theorem clashTo_snoc (ps : List (Nat × Nat)) (p : Nat × Nat) : clashTo (ps ++ [p]) = putS (putS (clashTo ps) p.1) p.2 := by
  unfold clashTo
  rw [List.foldl_append]
  rfl
theorem cast_inj (a b : Nat) (h : ((a : Nat) : Int) = ((b : Nat) : Int)) : a = b := by omega
theorem natsL_cast (l : List Nat) : natsL l = .lst ((l.map fun i => ((i : Nat) : Int)).map .int) := by
  unfold natsL
  rw [List.map_map]
  rfl
theorem natsT_cast (l : List Nat) : natsT l = .tup ((l.map fun i => ((i : Nat) : Int)).map .int) := by
  unfold natsT
  rw [List.map_map]
  rfl
theorem sortZ_cast (l : List Nat) : sortZ (l.map fun i => ((i : Nat) : Int)) = (l.mergeSort fun a b => decide (a ≤ b)).map fun i => ((i : Nat) : Int) := by
  unfold sortZ
  rw [List.map_mergeSort]
  intro a _ b _
  exact decide_eq_decide.mpr (by omega)
theorem wp_rows_that_clash (F : Fx) (ds : List Dt) (d : Dt) (r : R_rows_that_clash ds d) : Wp F (t_rows_that_clash F.K F.cl) (ro0 ["pairs", "some", "i", "j"] ds) (endP d) := by
  obtain ⟨ps, ⟨hl, h60⟩, rfl, rfl⟩ := r
  have hb : ∀ qs : List (Nat × Nat), (∀ p ∈ qs, p ∈ ps) → (clashTo qs).length ≤ 60 := fun qs hq => nd_bound (clashRows_nd qs [] List.Pairwise.nil) fun x hx => by
    obtain ⟨p, hp, h⟩ := ((clashRows_mem x qs []).mp hx).resolve_left fun z => nomatch z
    have := h60 p (hq p hp)
    rcases h with h | h <;> omega
  refine wp_seq (wp_newDi ?_)
  refine wp_seq (wp_forL ps pairD [2, 3] (fun pre => [.im (pairsL ps), .ow (.di ((clashTo pre).map fun i => (((i : Nat) : Int), Dt.bl true))), .no, .no]) (fun _ => True) (ei_list (ev_var rfl)) rfl trivial (fun pre p post eq _ => ⟨[2, 3], _, tg_tup rfl (tgs_cons tg_name (tgs_cons tg_name tgs_nil)), ?_⟩) fun _ => ?_)
  · have h1 := hb pre fun q hq => by
      rw [eq]
      exact List.mem_append.mpr (.inl hq)
    have h2 : (putS (clashTo pre) p.1).length ≤ 61 := Nat.le_trans putS_len (by omega)
    refine wp_seq (wp_putI (k := ((p.1 : Nat) : Int)) ev_bl (ev_var rfl) rfl rfl (by rw [List.length_map]; omega) ?_)
    rw [put_setL _ cast_inj]
    refine wp_putI (k := ((p.2 : Nat) : Int)) ev_bl (ev_var rfl) rfl rfl (by rw [List.length_map]; omega) ⟨trivial, ?_⟩
    rw [put_setL _ cast_inj, clashTo_snoc]
    rfl
  · have h1 := hb ps fun q hq => hq
    refine wp_ret (ev_sortOwnI rfl (by rw [List.length_map]; omega)) ?_
    show Dt.lst _ = natsL (rowsV ps)
    rw [List.map_map, natsL_cast]
    exact congrArg (fun l => Dt.lst (l.map .int)) (sortZ_cast (clashTo ps))
theorem pairD_inj (a b : Nat × Nat) (h : pairD a = pairD b) : a = b := by
  cases a
  cases b
  have h := Dt.tup.inj h
  simp only [List.cons.injEq, and_true] at h
  rw [natD_inj _ _ h.1, natD_inj _ _ h.2]
theorem mem_map_inj {α : Type} {e : α → Dt} (h : ∀ a b, e a = e b → a = b) {x : α} {xs : List α} : e x ∈ xs.map e ↔ x ∈ xs := by
  rw [List.mem_map]
  exact ⟨fun ⟨a, ha, ea⟩ => by rw [← h a x ea]; exact ha, fun hx => ⟨x, hx, rfl⟩⟩
theorem nice_nats (l : List Nat) : Nice 1 (natsT l) := .tup fun d hd => by
  obtain ⟨i, _, rfl⟩ := List.mem_map.mp hd
  exact .int _
theorem nice_pair (p : Nat × Nat) : Nice 1 (pairD p) := nice_nats [p.1, p.2]
theorem wp_is_near (F : Fx) (ds : List Dt) (d : Dt) (r : R_is_near ds d) : Wp F (t_is_near F.K F.cl) (ro0 ["pairs", "i", "j"] ds) (endP d) := by
  obtain ⟨⟨ps, i, j⟩, _, rfl, rfl⟩ := r
  have e1 : Dt.int (min ((i : Nat) : Int) ((j : Nat) : Int)) = natD (min i j) := congrArg Dt.int (by omega)
  have e2 : Dt.int (max ((i : Nat) : Int) ((j : Nat) : Int)) = natD (max i j) := congrArg Dt.int (by omega)
  refine wp_ret (ev_op (d1 := pairD (min i j, max i j)) (ev_tup (ea_two (ev_is (ev_CB (ea_two (ev_var rfl) (ev_var rfl)) rc_min2) e1) (ev_is (ev_CB (ea_two (ev_var rfl) (ev_var rfl)) rc_max2) e2)) (sm rfl)) (ev_var rfl) (rv_inD (n := 1) (nice_pair _) (fun x hx => by
    obtain ⟨p, _, rfl⟩ := List.mem_map.mp hx
    exact nice_pair p) (by decide) (b := nearV ps i j) ?_)) rfl
  rw [nearV, decide_eq_true_iff]
  exact (mem_map_inj pairD_inj).symm
theorem any_eqF (l : List Nat) (i : Nat) : ((l.map natD).any fun z => eqF z (natD i)) = decide (i ∈ l) := by
  rw [Bool.eq_iff_iff, List.any_eq_true, decide_eq_true_iff]
  constructor
  · rintro ⟨z, hz, e⟩
    obtain ⟨j, hj, rfl⟩ := List.mem_map.mp hz
    have e : (((j : Nat) : Int) == ((i : Nat) : Int)) = true := e
    have e : ((j : Nat) : Int) = ((i : Nat) : Int) := beq_iff_eq.mp e
    rw [← cast_inj _ _ e]
    exact hj
  · intro h
    exact ⟨natD i, List.mem_map.mpr ⟨i, h, rfl⟩, beq_self_eq_true (((i : Nat) : Int))⟩
theorem flat_nats (l : List Nat) : (l.map natD).all flatD = true := by
  rw [List.all_map, List.all_eq_true]
  intro x _
  rfl
theorem et_notIn {F : Fx} {te tl : TE} {ρ ρ1 ρ2 : Ro} {i : Nat} {l : List Nat} {y : Dt} (h : Ev F te ρ (natD i) ρ1) (hl : Ev F tl ρ1 y ρ2) (hy : y = natsL l ∨ y = natsT l) : EvT F (tTest (tOp (rIn F.K true) te tl)) ρ (!decide (i ∈ l)) ρ2 := by
  have z := rv_inF (F := F) (neg := true) (d := natD i) (ds := l.map natD) rfl (flat_nats l) y hy
  rw [if_pos rfl, any_eqF] at z
  exact et_test (ev_op h hl z)
theorem et_near {F : Fx} {ρ : Ro} {a b v : Nat} {l : List Nat} {ps : List (Nat × Nat)} {i : Nat} {k : Nat} (hk : ρ[k]? = some (.im (natsT l))) (ha : ρ[a]? = some (.im (pairsL ps))) (hb : ρ[b]? = some (.im (natD i))) (hav : a ≠ v) (hbv : b ≠ v) (hv : Clean ρ [v]) (hlv : v < ρ.length) (hl : l.length < 1000) :
    EvT F (tB (tCB (rAny F.K) (tCons (tLc (iTup F.K (tVar k)) (gName v) tYes (tCall (sp_is_near F.K F.cl) [] E0 (tCons (tVar a) (tCons (tVar b) (tCons (tVar v) tNil)))) [v]) tNil))) ρ (l.any (nearV ps i)) ρ := by
  have lc := ev_lcA (F := F) (ρ := ρ) (vs := [v]) (g := gName v) (te := tCall (sp_is_near F.K F.cl) [] E0 (tCons (tVar a) (tCons (tVar b) (tCons (tVar v) tNil)))) l natD (fun j => .bl (nearV ps i j)) (ei_tup (ev_var hk)) (by omega) hv fun B' G j hj =>
    ⟨[v], ρ.set v (.im (natD j)), fun k hk => hk, by
      have z := tg_name (F := pin F B' G) (i := v) (d := natD j) (ρ := wipeR ρ [v])
      rw [show (wipeR ρ [v]).set v (.im (natD j)) = ρ.set v (.im (natD j)) from List.set_set ..] at z
      exact z, ev_call (ea_cons (ev_var (by rw [List.getElem?_set_ne (Ne.symm hav)]; exact ha)) (ea_two (ev_var (by rw [List.getElem?_set_ne (Ne.symm hbv)]; exact hb)) (ev_var (by rw [List.getElem?_set_self hlv])))) ⟨(ps, i, j), trivial, rfl, rfl⟩, by
      show (ρ.set v _).set v .no = ρ.set v .no
      rw [List.set_set]⟩
  have e : l.map (fun j => Dt.bl (nearV ps i j)) = (l.map (nearV ps i)).map .bl := by rw [List.map_map]; rfl
  rw [e] at lc
  refine et_is (et_B (ev_CB (ea_one lc) rc_any)) ?_
  rw [List.any_map]
  rfl
theorem wp_is_greatest (F : Fx) (ds : List Dt) (d : Dt) (r : R_is_greatest ds d) : Wp F (t_is_greatest F.K F.cl) (ro0 ["free", "rows", "pairs", "i", "j"] ds) (endP d) := by
  obtain ⟨⟨free, rows, ps⟩, ⟨h1, h2⟩, rfl, rfl⟩ := r
  refine wp_seq (wp_forL rows natD [3, 4] (fun _ => [.im (natsT free), .im (natsL rows), .im (pairsL ps), .no, .no]) (fun pre => ∀ i ∈ pre, (decide (i ∈ free) || free.any (nearV ps i)) = true) (ei_list (ev_var rfl)) rfl (fun i hi => nomatch hi) (fun pre i post eq hp => ⟨[3], _, tg_name, ?_⟩) fun hp => ?_)
  · refine wp_if (et_and (et_notIn (ev_var rfl) (ev_var rfl) (.inr rfl)) fun _ => et_not (et_near (l := free) (ps := ps) (i := i) rfl rfl rfl (by decide) (by decide) (clean1 (.inl rfl)) (by show 4 < 5; decide) h1)) (fun e => ?_) fun e => wp_next ⟨?_, rfl⟩
    · refine wp_ret ev_bl ?_
      show Dt.bl false = Dt.bl (greatestV free rows ps)
      have hm : i ∈ rows := by
        rw [eq]
        exact List.mem_append.mpr (.inr List.mem_cons_self)
      have : greatestV free rows ps = false := by
        rw [greatestV, List.all_eq_false]
        refine ⟨i, hm, ?_⟩
        rw [Bool.and_eq_true, Bool.not_eq_true', Bool.not_eq_true'] at e
        rw [e.1, e.2]
        exact Bool.false_ne_true
      rw [this]
    · intro j hj
      rcases List.mem_append.mp hj with z | z
      · exact hp j z
      · rw [List.mem_singleton.mp z]
        cases e1 : decide (i ∈ free) <;> cases e2 : free.any (nearV ps i) <;> rw [e1, e2] at e <;> first | rfl | cases e
  · refine wp_ret ev_bl ?_
    show Dt.bl true = Dt.bl (greatestV free rows ps)
    have : greatestV free rows ps = true := List.all_eq_true.mpr hp
    rw [this]
end Md
namespace Md
open PySem PySem.Spec PyProof.Rows L2 PySem.W
def castL (l : List Nat) : List Int := l.map fun i => ((i : Nat) : Int)
theorem castL_inj (a b : List Nat) (h : castL a = castL b) : a = b := by
  induction a generalizing b with
  | nil =>
    cases b with
    | nil => rfl
    | cons y ys => cases h
  | cons x xs ih =>
    cases b with
    | nil => cases h
    | cons y ys =>
      have h : ((x : Nat) : Int) :: castL xs = ((y : Nat) : Int) :: castL ys := h
      injection h with h1 h2
      rw [cast_inj _ _ h1, ih ys h2]
theorem natsT_castL (l : List Nat) : natsT l = .tup ((castL l).map .int) := natsT_cast l
def kvL (l : List (List Nat)) : List (List Int × Dt) := l.map fun s => (castL s, Dt.bl true)
theorem put_kvL (l : List (List Nat)) (s : List Nat) : putD (kvL l) (castL s) (.bl true) = kvL (putS l s) := put_setL castL castL_inj l s
theorem ev_restI {F : Fx} {ρ : Ro} {te tf : TE} {rest : List Nat} {i : Nat} (h : Ev F te ρ (natsT rest) ρ) (hi : Ev F tf ρ (natD i) ρ) (hl : rest.length < 1000) : Ev F (tOp (rCatA F.K) te (tTup (tCons tf tNil))) ρ (natsT (rest ++ [i])) ρ := by
  have e : natsT (rest ++ [i]) = .tup (rest.map natD ++ [natD i]) := by
    unfold natsT
    rw [List.map_append]
    rfl
  rw [e]
  exact ev_op h (ev_tup (ea_one hi) (sm rfl)) (rv_catT (by rw [List.length_map]; show _ + 1 ≤ _; omega))
theorem freePut_yes {ps : List (Nat × Nat)} {pre : List Nat} {i : Nat} {more : List (List Nat)} {free : List Nat} (e : (decide ((restV ps i free).length = free.length) || greatestV (restV ps i free ++ [i]) pre ps) = true) :
    freePut ps pre i more free = putS (if (restV ps i free).length < free.length then putS more free else more) (restV ps i free ++ [i]) := by
  unfold freePut
  simp only
  rw [if_pos e]
theorem freePut_no {ps : List (Nat × Nat)} {pre : List Nat} {i : Nat} {more : List (List Nat)} {free : List Nat} (e : (decide ((restV ps i free).length = free.length) || greatestV (restV ps i free ++ [i]) pre ps) = false) :
    freePut ps pre i more free = if (restV ps i free).length < free.length then putS more free else more := by
  unfold freePut
  simp only
  rw [if_neg (by rw [e]; exact Bool.false_ne_true)]
theorem wp_free_sets (F : Fx) (ds : List Dt) (d : Dt) (r : R_free_sets ds d) : Wp F (t_free_sets F.K F.cl) (ro0 ["rows", "pairs", "found", "at", "i", "more", "free", "rest", "j"] ds) (endP d) := by
  obtain ⟨⟨rows, ps⟩, hl, rfl, rfl⟩ := r
  have hl : rows.length ≤ 10 := hl
  refine wp_seq (wp_set (ev_lst (ea_one (ev_tup ea_nil (sm rfl))) (sm rfl)) ?_)
  refine wp_seq (wp_forL rows.zipIdx (fun q => .tup [natD q.2, natD q.1]) [3, 4, 5, 6, 7, 8] (fun pre => [.im (natsL rows), .im (pairsL ps), .im (setsL (freeTo ps rows pre)), .no, .no, .no, .no, .no, .no]) (fun _ => True)
    (by rw [← enumD_map rows natD]; exact ei_enum (ea_one (ev_var rfl))) rfl trivial (fun pre q post eq _ => ⟨[3, 4], _, tg_tup rfl (tgs_cons tg_name (tgs_cons tg_name tgs_nil)), ?_⟩) fun _ => ?_)
  · obtain ⟨i, at'⟩ := q
    have hpl : pre.length < rows.length := by
      have e := congrArg List.length eq
      rw [List.length_zipIdx, List.length_append, List.length_cons] at e
      omega
    have hpre : pre = rows.zipIdx.take pre.length := by
      rw [eq, List.take_left]
    have hat : rows[at']? = some i ∧ at' = pre.length := by
      have z : rows.zipIdx[pre.length]? = some (i, at') := by
        rw [eq, List.getElem?_append_right (Nat.le_refl _), Nat.sub_self]
        rfl
      rw [List.getElem?_zipIdx, Nat.zero_add] at z
      cases e : rows[pre.length]? with
      | none =>
        rw [e] at z
        cases z
      | some y =>
        rw [e] at z
        cases z
        exact ⟨e, rfl⟩
    have hfound := free_found ps rows pre.length (by omega)
    rw [freeUpTo, ← hpre] at hfound
    obtain ⟨_, hf2, hf3⟩ := hfound
    have hf2 : (freeTo ps rows pre).length ≤ 1024 := by
      have h3 : 2 ^ pre.length ≤ 2 ^ 10 := Nat.pow_le_pow_right (by decide) (by omega)
      omega
    refine wp_seq (wp_newDt ?_)
    refine wp_seq (wp_forL (freeTo ps rows pre) natsT [6, 7, 8] (fun fs => [.im (natsL rows), .im (pairsL ps), .im (setsL (freeTo ps rows pre)), .im (natD at'), .im (natD i), .ow (.dt (kvL (fs.foldl (freePut ps (rows.take at') i) []))), .no, .no, .no]) (fun _ => True)
      (ei_list (ev_var rfl)) rfl trivial (fun fs free post2 eq2 _ => ⟨[6], _, tg_name, ?_⟩) fun _ => ?_)
    · have hmem : free ∈ freeTo ps rows pre := by
        rw [eq2]
        exact List.mem_append.mpr (.inr List.mem_cons_self)
      have hfl : free.length ≤ 10 := by
        have z := (hf3 free hmem).length_le
        rw [List.length_take] at z
        omega
      have hfs : fs.length ≤ 1024 := by
        have e := congrArg List.length eq2
        rw [List.length_append] at e
        omega
      have hkv : (fs.foldl (freePut ps (rows.take at') i) []).length ≤ 2048 := by
        have z : (fs.foldl (freePut ps (rows.take at') i) []).length ≤ 0 + 2 * fs.length := freeStep_len _ _
        omega
      have hrl : (restV ps i free).length ≤ free.length := List.length_filter_le ..
      have hflt := filter_nats (F := F) (ρ := [.im (natsL rows), .im (pairsL ps), .im (setsL (freeTo ps rows pre)), .im (natD at'), .im (natD i), .ow (.dt (kvL (fs.foldl (freePut ps (rows.take at') i) []))), .im (natsT free), .no, .no]) (v := 8) (l := free) (tt := tNot (tB (tCall (sp_is_near F.K F.cl) [] E0 (tCons (tVar 1) (tCons (tVar 4) (tCons (tVar 8) tNil)))))) (fun j => !nearV ps i j) (ei_tup (ev_var (k := 6) rfl)) (clean1 (.inl rfl)) (by omega) (by show 8 < 9; decide) fun B' G j hj =>
        et_not (et_B (ev_call (ea_cons (ev_var rfl) (ea_two (ev_var rfl) (ev_var rfl))) ⟨(ps, i, j), trivial, rfl, rfl⟩))
      refine wp_seq (wp_set (ev_CB (ea_one hflt) (rc_tuple (.inl rfl))) ?_)
      have hsn : (fs ++ [free]).foldl (freePut ps (rows.take at') i) [] = freePut ps (rows.take at') i (fs.foldl (freePut ps (rows.take at') i) []) free := by
        rw [List.foldl_append]
        rfl
      let more1 := if (restV ps i free).length < free.length then putS (fs.foldl (freePut ps (rows.take at') i) []) free else fs.foldl (freePut ps (rows.take at') i) []
      have hm1 : more1.length ≤ 2049 := by
        show (if (restV ps i free).length < free.length then putS (fs.foldl (freePut ps (rows.take at') i) []) free else fs.foldl (freePut ps (rows.take at') i) []).length ≤ 2049
        split
        · exact Nat.le_trans putS_len (by omega)
        · omega
      have second : ∀ (Φ : Pd), Φ.nx [.im (natsL rows), .im (pairsL ps), .im (setsL (freeTo ps rows pre)), .im (natD at'), .im (natD i), .ow (.dt (kvL (freePut ps (rows.take at') i (fs.foldl (freePut ps (rows.take at') i) []) free))), .im (natsT free), .im (natsT (restV ps i free)), .no] →
          Wp F (tIfS (tOr (tTest (tOp rEq (tCB (rLen F.K) (tCons (tVar 7) tNil)) (tCB (rLen F.K) (tCons (tVar 6) tNil)))) (tB (tCall (sp_is_greatest F.K F.cl) [] E0 (tCons (tOp (rCatA F.K) (tVar 7) (tTup (tCons (tVar 4) tNil))) (tCons (tSl (rSlL F.K) (tVar 0) tNoPart (tPart (tVar 3))) (tCons (tVar 1) tNil))))))
            (sDPut (tVar 5) (tOp (rCatA F.K) (tVar 7) (tTup (tCons (tVar 4) tNil))) (tC (.bl true))) tNext)
            [.im (natsL rows), .im (pairsL ps), .im (setsL (freeTo ps rows pre)), .im (natD at'), .im (natD i), .ow (.dt (kvL more1)), .im (natsT free), .im (natsT (restV ps i free)), .no] Φ := fun Φ hΦ => by
        refine wp_if (et_or (b := greatestV (restV ps i free ++ [i]) (rows.take at') ps) (et_test (ev_op (ev_lenT (ev_var rfl)) (ev_lenT (ev_var rfl)) rv_eqN)) fun _ => et_B (ev_call (ea_cons (ev_restI (ev_var rfl) (ev_var rfl) (by omega)) (ea_two (d := natsL (rows.take at')) (ev_is (ev_sl (ev_var (d := natsL rows) rfl) eo_none (eo_some (ev_var rfl)) rs_lst) (by
            rw [cut_take, ← List.map_take]
            rfl)) (ev_var rfl))) ⟨(restV ps i free ++ [i], rows.take at', ps), ⟨by show (restV ps i free ++ [i]).length < 1000; rw [List.length_append]; show _ + 1 < 1000; omega, by show (rows.take at').length < 1000; rw [List.length_take]; omega⟩, rfl, rfl⟩)) (fun e => ?_) fun e => wp_next ?_
        · refine wp_putT (ks := castL (restV ps i free ++ [i])) ev_bl (ev_is (ev_restI (ev_var rfl) (ev_var rfl) (by omega)) (natsT_castL _)) rfl rfl (by unfold kvL; rw [List.length_map]; omega) ?_
          rw [put_kvL]
          have hp : freePut ps (rows.take at') i (fs.foldl (freePut ps (rows.take at') i) []) free = putS more1 (restV ps i free ++ [i]) := freePut_yes e
          rw [hp] at hΦ
          exact hΦ
        · have hp : freePut ps (rows.take at') i (fs.foldl (freePut ps (rows.take at') i) []) free = more1 := freePut_no e
          rw [hp] at hΦ
          exact hΦ
      refine wp_seq (wp_if (et_test (ev_op (ev_lenT (ev_var rfl)) (ev_lenT (ev_var rfl)) rv_ltN)) (fun e => ?_) fun e => wp_next ?_)
      · refine wp_putT (ks := castL free) ev_bl (ev_is (ev_var rfl) (natsT_castL free)) rfl rfl (by unfold kvL; rw [List.length_map]; omega) ?_
        rw [put_kvL]
        have h1 : more1 = putS (fs.foldl (freePut ps (rows.take at') i) []) free := if_pos (of_decide_eq_true e)
        rw [h1] at second
        exact second _ ⟨trivial, by rw [hsn]; rfl⟩
      · have h1 : more1 = fs.foldl (freePut ps (rows.take at') i) [] := if_neg (of_decide_eq_false e)
        rw [h1] at second
        exact second _ ⟨trivial, by rw [hsn]; rfl⟩
    · refine wp_set (ev_keysOwnT rfl) ⟨trivial, ?_⟩
      rw [freeTo_snoc]
      show [_, _, _, _, _, _, _, _, _] = _
      have e : (kvL ((freeTo ps rows pre).foldl (freePut ps (rows.take at') i) [])).map (fun kv => Dt.tup (kv.1.map .int)) = (freeStep ps (rows.take at') i (freeTo ps rows pre)).map natsT := by
        unfold kvL
        rw [List.map_map]
        exact List.map_congr_left fun s _ => (natsT_castL s).symm
      rw [e]
      rfl
  · exact wp_ret (ev_var rfl) rfl
theorem wp_as_bits (F : Fx) (ds : List Dt) (d : Dt) (r : R_as_bits ds d) : Wp F (t_as_bits F.K F.cl) (ro0 ["rows", "total", "i"] ds) (endP d) := by
  obtain ⟨l, ⟨_, h60⟩, rfl, rfl⟩ := r
  refine wp_seq (wp_set ev_int ?_)
  refine wp_seq (wp_forL l natD [2] (fun pre => [.im (natsT l), .im (.int (bitsV pre)), .no]) (fun _ => True) (ei_tup (ev_var rfl)) rfl trivial (fun pre i post eq _ => ⟨[2], _, tg_name, ?_⟩) fun _ => ?_)
  · have hi : i < 60 := h60 i (by
      rw [eq]
      exact List.mem_append.mpr (.inr List.mem_cons_self))
    refine wp_set (ev_op (ev_var rfl) (ev_op ev_int (ev_var rfl) (rv_shl ⟨by omega, by omega, by decide⟩)) rv_or) ⟨trivial, ?_⟩
    unfold bitsV
    rw [List.foldl_append]
    rfl
  · exact wp_ret (ev_var rfl) rfl
end Md
namespace Md
open PySem PySem.Spec PyProof.Rows L2 PySem.W
def kvD (l : List (Int × List Nat)) : List (Int × Dt) := l.map fun kv => (kv.1, natsT kv.2)
theorem put_kvD (l : List (Int × List Nat)) (k : Int) (r : List Nat) : putD (kvD l) k (natsT r) = kvD (bput l k r) := by
  have hany : ((kvD l).any fun kv => decide (kv.1 = k)) = (l.any fun kv => decide (kv.1 = k)) := by
    unfold kvD
    rw [List.any_map]
    rfl
  unfold putD bput
  rw [hany]
  split
  · unfold kvD
    rw [List.map_map, List.map_map]
    refine List.map_congr_left fun kv _ => ?_
    show (if kv.1 = k then (kv.1, natsT r) else (kv.1, natsT kv.2)) = ((if kv.1 = k then (kv.1, r) else kv).1, natsT (if kv.1 = k then (kv.1, r) else kv).2)
    split <;> rfl
  · unfold kvD
    rw [List.map_append]
    rfl
theorem look_kvD : ∀ {l : List (Int × List Nat)} {kv : Int × List Nat}, (l.map (·.1)).Nodup → kv ∈ l → (kvD l).lookup kv.1 = some (natsT kv.2)
  | a :: l, kv, nd, h => by
    rw [List.map_cons, List.nodup_cons] at nd
    show ((a.1, natsT a.2) :: kvD l).lookup kv.1 = _
    rw [List.lookup_cons]
    rcases List.mem_cons.mp h with e | h
    · rw [e, beq_self_eq_true]
    · have hne : kv.1 ≠ a.1 := fun e => nd.1 (by rw [← e]; exact List.mem_map.mpr ⟨kv, h, rfl⟩)
      rw [beq_eq_false_iff_ne.mpr hne]
      exact look_kvD nd.2 h
theorem byBits_snoc (l : List (List Nat)) (r : List Nat) : byBits (l ++ [r]) = bput (byBits l) (bitsV r) r := by
  rw [byBits_eq, byBits_eq, List.foldl_append]
  rfl
theorem wp_greatest_ones (F : Fx) (ds : List Dt) (d : Dt) (r : R_greatest_ones ds d) : Wp F (t_greatest_ones F.K F.cl) (ro0 ["some", "by_bits", "rows", "left", "bits", "other"] ds) (endP d) := by
  obtain ⟨ss, ⟨hl, hs⟩, rfl, rfl⟩ := r
  have hbl : (byBits ss).length < 10000 := Nat.lt_of_le_of_lt byBits_len hl
  refine wp_seq (wp_newDi ?_)
  refine wp_seq (wp_forL ss natsT [2] (fun pre => [.im (setsL ss), .ow (.di (kvD (byBits pre))), .no, .no, .no, .no]) (fun _ => True) (ei_list (ev_var rfl)) rfl trivial (fun pre s post eq _ => ⟨[2], _, tg_name, ?_⟩) fun _ => ?_)
  · have hm : s ∈ ss := by
      rw [eq]
      exact List.mem_append.mpr (.inr List.mem_cons_self)
    have hpre : pre.length < 10000 := by
      have e := congrArg List.length eq
      rw [List.length_append] at e
      omega
    have hb : (byBits pre).length ≤ pre.length := byBits_len
    refine wp_putI (ev_var rfl) (ev_call (ea_one (ev_var rfl)) ⟨s, hs s hm, rfl, rfl⟩) rfl rfl (by unfold kvD; rw [List.length_map]; omega) ⟨trivial, ?_⟩
    rw [put_kvD, byBits_snoc]
    rfl
  · refine wp_seq (wp_newL ea_nil (sm rfl) ?_)
    refine wp_seq (wp_lock (i := 1) (kvs := kvD (byBits ss)) rfl fun p u => ?_)
    have hk : ∀ (F : Fx) (ρ : Ro), ρ[1]? = some (.ow (.lk p u (kvD (byBits ss)))) → EvS F (iKeys (tVar 1)) ρ ((byBits ss).map fun kv => .int kv.1) ρ (fun ρ' => ∃ j : Nat, ρ'[j]? = some (Sl.ow (.lk p u (kvD (byBits ss))))) := fun F ρ h => by
      have z := ei_keys (F := F) h
      have e : (kvD (byBits ss)).map (fun kv => Dt.int kv.1) = (byBits ss).map fun kv => Dt.int kv.1 := by
        unfold kvD
        rw [List.map_map]
        rfl
      rw [e] at z
      exact z
    refine wp_forLS (byBits ss) (fun kv => .int kv.1) [4, 5] (fun pre => [.im (setsL ss), .ow (.lk p u (kvD (byBits ss))), .no, .ow (.ls ((pre.filter fun kv => !underB ((byBits ss).map (·.1)) kv.1).map fun kv => natsT kv.2)), .no, .no]) (fun _ => True) (hk F _ rfl) rfl trivial (fun _ => ⟨1, rfl⟩) (fun pre kv post eq _ => ⟨[4], _, tg_name, ?_⟩) fun _ => ⟨rfl, ?_⟩
    · have hm : kv ∈ byBits ss := by
        rw [eq]
        exact List.mem_append.mpr (.inr List.mem_cons_self)
      have hpre : pre.length < 10000 := by
        have e := congrArg List.length eq
        rw [List.length_append] at e
        omega
      have hfl : (pre.filter fun kv => !underB ((byBits ss).map (·.1)) kv.1).length ≤ pre.length := List.length_filter_le ..
      have lc := ev_lcMS (F := F) (ρ := [.im (setsL ss), .ow (.lk p u (kvD (byBits ss))), .no, .ow (.ls ((pre.filter fun kv => !underB ((byBits ss).map (·.1)) kv.1).map fun kv => natsT kv.2)), .im (.int kv.1), .no]) (vs := [5]) (g := gName 5) (tt := tYes) (te := tAndV (tOp rNe (tVar 4) (tVar 5)) (tOp rEq (tOp qAnd (tVar 4) (tVar 5)) (tVar 4)))
        (byBits ss) (fun kv => .int kv.1) (fun _ => true) (fun y => .bl ((!decide (kv.1 = y.1)) && decide (Builtin.bitAnd kv.1 y.1 = kv.1))) (hk F _ rfl) ⟨1, rfl⟩ (by omega) (clean1 (.inl rfl)) fun B' G y hy =>
          ⟨[5], _, fun k hk => hk, tg_name, et_yes, fun _ => ev_andV (ev_op (ev_var rfl) (ev_var rfl) rv_neI) fun _ => ev_op (ev_op (ev_var rfl) (ev_var rfl) rv_and) (ev_var rfl) rv_eqI, rfl⟩
      rw [List.filter_eq_self.mpr (fun _ _ => rfl)] at lc
      have e : (byBits ss).map (fun y => Dt.bl ((!decide (kv.1 = y.1)) && decide (Builtin.bitAnd kv.1 y.1 = kv.1))) = (((byBits ss).map (·.1)).map fun y => (!decide (kv.1 = y)) && decide (Builtin.bitAnd kv.1 y = kv.1)).map .bl := by
        rw [List.map_map, List.map_map]
        rfl
      rw [e] at lc
      have ht : EvT F (tB (tCB (rAny F.K) (tCons (tLc (iKeys (tVar 1)) (gName 5) tYes (tAndV (tOp rNe (tVar 4) (tVar 5)) (tOp rEq (tOp qAnd (tVar 4) (tVar 5)) (tVar 4))) [5]) tNil))) [.im (setsL ss), .ow (.lk p u (kvD (byBits ss))), .no, .ow (.ls ((pre.filter fun kv => !underB ((byBits ss).map (·.1)) kv.1).map fun kv => natsT kv.2)), .im (.int kv.1), .no]
          (underB ((byBits ss).map (·.1)) kv.1) [.im (setsL ss), .ow (.lk p u (kvD (byBits ss))), .no, .ow (.ls ((pre.filter fun kv => !underB ((byBits ss).map (·.1)) kv.1).map fun kv => natsT kv.2)), .im (.int kv.1), .no] := by
        refine et_is (et_B (ev_CB (ea_one lc) rc_any)) ?_
        rw [List.any_map]
        rfl
      refine wp_appIf (et_not ht) (ev_dget rfl (ev_var rfl) (look_kvD byBits_nd hm)) rfl (by rw [List.length_map]; omega) ⟨trivial, ?_⟩
      rw [List.filter_append, List.map_append]
      show [_, _, _, _, _, _] = _
      congr 4
      congr 3
      rw [List.filter_cons]
      cases underB ((byBits ss).map (·.1)) kv.1 <;> rfl
    · refine wp_ret (ev_freeze rfl) ?_
      show Dt.lst _ = Dt.lst ((greatestOnes ss).map natsT)
      unfold greatestOnes
      rw [List.map_map]
      rfl
theorem sortN_cast (l : List Nat) : Dt.lst ((sortZ (castL l)).map .int) = natsL (sortN l) := by
  rw [natsL_cast]
  exact congrArg (fun l => Dt.lst (l.map .int)) (sortZ_cast l)
theorem natsL_castL (l : List Nat) : natsL l = .lst ((castL l).map .int) := natsL_cast l
theorem wp_mended (F : Fx) (ds : List Dt) (d : Dt) (r : R_mended ds d) : Wp F (t_mended F.K F.cl) (ro0 ["book", "pairs", "rows", "others", "i", "some", "free"] ds) (endP d) := by
  obtain ⟨B, hB, rfl, rfl⟩ := r
  have hB : B.Ok := hB
  have h10 : B.rows.length ≤ 10 := hB.n10
  have hpr : (clashesV B).length < 1000 := by
    have h6 : B.rules.length ≤ 6 := hB.r6
    have z := pair_len (B := B) (rows := heldV B (allRows B)) h6 (rowsIn_held hB).2.1
    have z2 := foldPut_len (fun b : Brk => (b.i, b.j)) (pairV B (heldV B (allRows B))) []
    have z2 : (pairKeys B).length ≤ 0 + (pairV B (heldV B (allRows B))).length := z2
    have z3 : (clashesV B).length = (pairKeys B).length := List.length_mergeSort ..
    omega
  have hrl := rowsV_len B
  refine wp_seq (wp_set (ev_call (ea_one (ev_var rfl)) ⟨B, hB, rfl, rfl⟩) ?_)
  refine wp_seq (wp_set (ev_call (ea_one (ev_var rfl)) ⟨clashesV B, ⟨hpr, fun p hp => by have z := clash_in hp; omega⟩, rfl, rfl⟩) ?_)
  refine wp_seq (wp_no (et_is (et_test (ev_op (ev_lenN (ev_var rfl)) ev_int rv_gt)) (decide_eq_false (by omega))) (wp_next ?_))
  refine wp_seq (wp_set (filter_nats (v := 4) (l := heldV B (allRows B)) (fun i => !decide (i ∈ rowsV (clashesV B))) (ei_tup (ev_call (ea_two (ev_var rfl) (ev_allRows hB (ev_var rfl))) ⟨(B, allRows B), rowsIn_all hB, rfl, rfl⟩)) (clean1 (.inl rfl)) (by
      have := (rowsIn_held hB).2.1
      omega) (by show 4 < 7; decide) fun B' G i hi => et_notIn (ev_var rfl) (ev_var rfl) (.inl rfl)) ?_)
  let fr := freeV (rowsV (clashesV B)) (clashesV B)
  have hfr : fr.length ≤ 1024 := by
    have z := someV_len B h10
    unfold someV at z
    rwa [List.length_map] at z
  have lc := ev_lcA (F := F) (ρ := [.im B.d, .im (pairsL (clashesV B)), .im (natsL (rowsV (clashesV B))), .im (natsL (othersV B (rowsV (clashesV B)))), .no, .no, .no]) (vs := [6]) (g := gName 6)
    (te := tCall (sp_held F.K F.cl) [] E0 (tCons (tVar 0) (tCons (tCB (rTuple F.K) (tCons (tCB (rSorted F.K) (tCons (tOp (qCat F.K) (tCB (rList F.K) (tCons (tVar 6) tNil)) (tVar 3)) tNil)) tNil)) tNil)))
    (wi := iList F.K (tCall (sp_free_sets F.K F.cl) [] E0 (tCons (tVar 2) (tCons (tVar 1) tNil)))) fr natsT (fun f => natsT (heldV B (sortN (f ++ othersV B (rowsV (clashesV B)))))) (ei_list (ev_call (ea_two (ev_var (k := 2) (d := natsL (rowsV (clashesV B))) rfl) (ev_var (k := 1) (d := pairsL (clashesV B)) rfl)) ⟨(rowsV (clashesV B), clashesV B), by show (rowsV (clashesV B)).length ≤ 10; omega, rfl, rfl⟩)) (by omega) (clean1 (.inl rfl)) fun B' G f hf => by
      obtain ⟨g1, g2⟩ := free_others hf
      have g3 : (f ++ othersV B (rowsV (clashesV B))).length ≤ 10 := Nat.le_trans (nd_bound g1 g2) h10
      have g4 : f.length + (othersV B (rowsV (clashesV B))).length ≤ 10 := by
        rw [List.length_append] at g3
        exact g3
      refine ⟨[6], _, fun k hk => hk, tg_name, ev_call (ea_two (ev_var rfl) (ev_is (ev_CB (ea_one (ev_CB (ea_one (ev_is (ev_op (ev_CB (ea_one (ev_var (d := natsT f) rfl)) (rc_list (.inr rfl))) (ev_var (d := natsL (othersV B (rowsV (clashesV B)))) rfl) (rv_catL (by rw [List.length_map, List.length_map]; omega))) (by
          rw [← List.map_append]
          exact natsL_castL _))) (rc_sortI (by
          unfold castL
          rw [List.length_map]
          omega)))) (rc_tuple (.inl rfl))) (by
          have z := Dt.lst.inj (sortN_cast (f ++ othersV B (rowsV (clashesV B))))
          rw [z]
          rfl))) ⟨(B, sortN (f ++ othersV B (rowsV (clashesV B)))), ⟨hB, by show (sortN _).length ≤ 10; rw [sortN_len]; exact g3, fun i hi => g2 i (sortN_mem.mp hi)⟩, rfl, rfl⟩, rfl⟩
  refine wp_seq (wp_set lc ?_)
  have hsome : fr.map (fun f => natsT (heldV B (sortN (f ++ othersV B (rowsV (clashesV B)))))) = (someV B).map natsT := by
    unfold someV
    rw [List.map_map]
    rfl
  rw [hsome]
  have hsl := someV_len B h10
  have hgo : ∀ s ∈ greatestOnes (someV B), s ∈ someV B := fun s hs => greatest_in hs
  refine wp_ret (ev_CB (ea_one (ev_call (ea_one (ev_var rfl)) ⟨someV B, ⟨by show (someV B).length < 10000; omega, fun s hs => by
    obtain ⟨h1, h2⟩ := someV_in hs
    exact ⟨by omega, fun i hi => by have := h1 i hi; omega⟩⟩, rfl, rfl⟩)) (rc_sort (n := 1) (fun x hx => by
    obtain ⟨s, _, rfl⟩ := List.mem_map.mp hx
    exact nice_nats s) (by decide) (allAlike_of fun x hx y hy => by
    obtain ⟨s, _, rfl⟩ := List.mem_map.mp hx
    obtain ⟨s', _, rfl⟩ := List.mem_map.mp hy
    rw [natsT_castL, natsT_castL]
    exact alike_tupI _ _) (by
    by_cases he : [] ∈ greatestOnes (someV B)
    · right
      rw [List.length_map]
      exact greatest_one he
    · left
      refine sortable_tup fun x hx => ?_
      obtain ⟨s, hs, rfl⟩ := List.mem_map.mp hx
      cases s with
      | nil => exact absurd hs he
      | cons a r => exact ⟨natD a, r.map natD, rfl⟩))) ?_
  show Dt.lst (sortD ((greatestOnes (someV B)).map natsT)) = Dt.lst ((mendedV B).map natsT)
  unfold mendedV sortD
  rw [List.map_mergeSort (r := setLe) (s := leD) (fun a _ b _ => rfl)]
theorem wp_many_mended (F : Fx) (ds : List Dt) (d : Dt) (r : R_many_mended ds d) : Wp F (t_many_mended F.K F.cl) (ro0 ["book"] ds) (endP d) := by
  obtain ⟨B, hB, rfl, rfl⟩ := r
  refine wp_ret (ev_len (ev_call (ea_one (ev_var rfl)) ⟨B, hB, rfl, rfl⟩) (.inl rfl)) ?_
  show Dt.int _ = Dt.int _
  rw [List.length_map]
theorem wp_mended_at (F : Fx) (ds : List Dt) (d : Dt) (r : R_mended_at ds d) : Wp F (t_mended_at F.K F.cl) (ro0 ["book", "number", "some"] ds) (endP d) := by
  obtain ⟨⟨B, n, s⟩, ⟨hB, hn⟩, rfl, rfl⟩ := r
  have hlt : n < (mendedV B).length := (List.getElem?_eq_some_iff.mp hn).1
  refine wp_seq (wp_set (ev_call (ea_one (ev_var rfl)) ⟨B, hB, rfl, rfl⟩) ?_)
  refine wp_seq (wp_no (et_is (et_not (et_test (ev_chain (a := true) (b := true) ev_int (ev_var (d := natD n) rfl) (by
      have z := rv_le (F := F) (i := 0) (j := ((n : Nat) : Int))
      rwa [decide_eq_true (by omega)] at z) fun _ => ⟨ev_len (ev_var rfl) (.inl rfl), by
      have z := rv_lt (F := F) (i := ((n : Nat) : Int)) (j := ((((mendedV B).map natsT).length : Nat) : Int))
      rwa [decide_eq_true (by rw [List.length_map]; omega)] at z⟩))) rfl) (wp_next ?_))
  exact wp_ret (ev_ixl (ev_var rfl) (ev_var rfl) (get_map hn)) rfl
theorem natsT_inj (a b : List Nat) (h : natsT a = natsT b) : a = b := map_inj natD_inj (Dt.tup.inj h)
theorem wp_is_mended (F : Fx) (ds : List Dt) (d : Dt) (r : R_is_mended ds d) : Wp F (t_is_mended F.K F.cl) (ro0 ["book", "rows"] ds) (endP d) := by
  obtain ⟨⟨B, s⟩, hB, rfl, rfl⟩ := r
  refine wp_ret (ev_op (ev_var rfl) (ev_call (ea_one (ev_var rfl)) ⟨B, hB, rfl, rfl⟩) (rv_inD (n := 1) (nice_nats s) (fun x hx => by
    obtain ⟨s', _, rfl⟩ := List.mem_map.mp hx
    exact nice_nats s') (by decide) (b := decide (s ∈ mendedV B)) ?_)) rfl
  rw [decide_eq_true_iff]
  exact (mem_map_inj natsT_inj).symm
end Md
namespace Md
open PySem PySem.Spec PyProof.Rows L2 PySem.W
theorem ev_below {F : Fx} {ρ ρ1 : Ro} {tb tc : TE} {n m : Nat} (hb : Ev F tb ρ (natD n) ρ1) (hc : Ev F tc ρ1 (natD m) ρ1) (h : n < m) : Ev F (tChain qLe qLt (tC (.int 0)) tb tc) ρ (.bl true) ρ1 :=
  ev_chain (a := true) (b := true) ev_int hb (by
    have z := rv_le (F := F) (i := 0) (j := ((n : Nat) : Int))
    rwa [decide_eq_true (by omega)] at z) fun _ => ⟨hc, by
    have z := rv_lt (F := F) (i := ((n : Nat) : Int)) (j := ((m : Nat) : Int))
    rwa [decide_eq_true (by omega)] at z⟩
theorem ev_lenX {F : Fx} {ρ ρ1 : Ro} {te : TE} {α : Type} {l : List α} {e : α → Dt} (h : Ev F te ρ (.tup (l.map e)) ρ1) : Ev F (tCB (rLen F.K) (tCons te tNil)) ρ (natD l.length) ρ1 := by
  have z := ev_len h (.inr rfl)
  rwa [List.length_map] at z
theorem tabs_get {tabs : List Tab} {t : Nat} {T : Tab} (h : tabs[t]? = some T) : (tabs.map tabD)[t]? = some (tabD T) := get_map h
theorem wp_number_of (F : Fx) (ds : List Dt) (d : Dt) (r : R_number_of ds d) : Wp F (t_number_of F.K F.cl) (ro0 ["value"] ds) (endP d) := by
  obtain ⟨c, _, rfl, rfl⟩ := r
  cases c with
  | z i => exact wp_seq (wp_no (et_B (ev_isiS (c := .z i) (ev_var rfl))) (wp_next (wp_ret (ev_var rfl) rfl)))
  | s x => exact wp_seq (wp_yes (et_B (ev_isiS (c := .s x) (ev_var rfl))) (wp_ret ev_int rfl))
theorem wp_worth (F : Fx) (ds : List Dt) (d : Dt) (r : R_worth ds d) : Wp F (t_worth F.K F.cl) (ro0 ["book", "place", "t", "c", "there", "cells"] ds) (endP d) := by
  obtain ⟨⟨B, i, t, c⟩, ⟨hB, hi, hc⟩, rfl, rfl⟩ := r
  have hr := rowAt_get hi
  have hok := hB.row _ (List.mem_of_getElem? hr)
  refine wp_seq (ev_pair2 (d1 := natD (rowAt B.rows i).t) (d2 := .tup ((rowAt B.rows i).cs.map Cell.d)) (ev_ixv (ev_at 2 (ev_var rfl) rfl) (ev_var rfl) (row_get hr)) ?_)
  refine wp_seq (wp_if (et_test (ev_op (ev_var rfl) (ev_var rfl) rv_neN)) (fun e => ?_) fun e => wp_next ?_)
  · refine wp_ret ev_int ?_
    show Dt.int 0 = Dt.int (worthV B.rows t c i)
    rw [worthV, if_pos e]
  · have e2 : (rowAt B.rows i).t = t := by simpa using e
    have hlt : c < (rowAt B.rows i).cs.length := hok.wide (by rw [e2]; exact hc)
    refine wp_ret (ev_call (ea_one (ev_ixv (ev_var rfl) (ev_var rfl) (cell_get hlt))) ⟨cellAt (rowAt B.rows i) c, trivial, rfl, rfl⟩) ?_
    show Dt.int _ = Dt.int (worthV B.rows t c i)
    rw [worthV, if_neg (by rw [e]; exact Bool.false_ne_true)]
theorem wp_check_column (F : Fx) (ds : List Dt) (d : Dt) (r : R_check_column ds d) : Wp F (t_check_column F.K F.cl) (ro0 ["book", "t", "c"] ds) (endP d) := by
  obtain ⟨⟨B, t, c⟩, ⟨T, h1, h2⟩, rfl, rfl⟩ := r
  have hlt : t < B.tabs.length := (List.getElem?_eq_some_iff.mp h1).1
  refine wp_no (et_or (a := false) (b := false) (et_not (et_test (ev_below (ev_var (d := natD t) rfl) (ev_lenX (ev_at 0 (ev_var rfl) rfl)) hlt))) fun _ => et_not (et_test (ev_below (ev_var (d := natD c) rfl) (ev_at 0 (d := natD T.1) (ev_ixv (ev_at 0 (ev_var rfl) rfl) (ev_var rfl) (tabs_get h1)) rfl) h2))) (wp_next rfl)
theorem wp_sum_in (F : Fx) (ds : List Dt) (d : Dt) (r : R_sum_in ds d) : Wp F (t_sum_in F.K F.cl) (ro0 ["book", "rows", "t", "c", "place"] ds) (endP d) := by
  obtain ⟨⟨B, l, t, c⟩, ⟨hB, hl, hin, hc⟩, rfl, rfl⟩ := r
  have hl : l.length < 1000 := hl
  have lc := ev_lcA (F := F) (ρ := [.im B.d, .im (natsT l), .im (natD t), .im (natD c), .no]) (vs := [4]) (g := gName 4) (te := tCall (sp_worth F.K F.cl) [] E0 (tCons (tVar 0) (tCons (tVar 4) (tCons (tVar 2) (tCons (tVar 3) tNil))))) l natD (fun i => .int (worthV B.rows t c i)) (ei_tup (ev_var (k := 1) (d := natsT l) rfl)) (by omega) (clean1 (.inl rfl)) fun B' G i hi =>
    ⟨[4], _, fun k hk => hk, tg_name, ev_call (ea_cons (ev_var rfl) (ea_cons (ev_var rfl) (ea_two (ev_var rfl) (ev_var rfl)))) ⟨(B, i, t, c), ⟨hB, hin i hi, hc⟩, rfl, rfl⟩, rfl⟩
  have e : l.map (fun i => Dt.int (worthV B.rows t c i)) = (l.map (worthV B.rows t c)).map .int := by
    rw [List.map_map]
    rfl
  rw [e] at lc
  refine wp_seq (wp_drop (ev_call (ea_cons (ev_var rfl) (ea_two (ev_var rfl) (ev_var rfl))) ⟨(B, t, c), hc, rfl, rfl⟩) ?_)
  exact wp_ret (ev_CB (ea_one lc) rc_sum) rfl
def bestTo (rows : List Row) (t c : Nat) (sign : Int) (b0 : List Nat) (pre : List Nat) : Nat := pre.foldl (fun found i => if sign * worthV rows t c found < sign * worthV rows t c i then i else found) (b0.headD 0)
theorem sign_mul {s v : Int} (hs : s = -1 ∨ s = 1) (h : -bey < v ∧ v < bey) : CMulW s v := by
  have h1 := log2_small h
  have h2 : s.natAbs.log2 = 0 := by
    rcases hs with e | e <;> rw [e] <;> decide
  show s.natAbs.log2 + v.natAbs.log2 < 1000000
  omega
theorem wp_best_of (F : Fx) (ds : List Dt) (d : Dt) (r : R_best_of ds d) : Wp F (t_best_of F.K F.cl) (ro0 ["book", "block", "t", "c", "sign", "found", "place"] ds) (endP d) := by
  obtain ⟨⟨B, b, t, c, s⟩, ⟨hB, hne, hin, hc, hs⟩, rfl, rfl⟩ := r
  have hB : B.Ok := hB
  have h0 : b[0]? = some (b.headD 0) := by
    cases b with
    | nil => exact absurd rfl hne
    | cons x r => rfl
  have hh : b.headD 0 ∈ b := List.mem_of_getElem? h0
  refine wp_seq (wp_set (ev_ixl (k := 0) (d := natD (b.headD 0)) (ev_var rfl) (ev_int (i := 0)) (get_map h0)) ?_)
  refine wp_seq (wp_forL b natD [6] (fun pre => [.im B.d, .im (natsL b), .im (natD t), .im (natD c), .im (.int s), .im (natD (bestTo B.rows t c s b pre)), .no]) (fun pre => bestTo B.rows t c s b pre ∈ b) (ei_list (ev_var rfl)) rfl hh (fun pre i post eq hp => ⟨[6], _, tg_name, ?_⟩) fun _ => ?_)
  · have hm : i ∈ b := by
      rw [eq]
      exact List.mem_append.mpr (.inr List.mem_cons_self)
    have w1 := worth_bound hB (hin i hm) hc
    have w2 := worth_bound hB (hin _ hp) hc
    have hsn : bestTo B.rows t c s b (pre ++ [i]) = if s * worthV B.rows t c (bestTo B.rows t c s b pre) < s * worthV B.rows t c i then i else bestTo B.rows t c s b pre := by
      unfold bestTo
      rw [List.foldl_append]
      rfl
    refine wp_if (et_test (ev_op (ev_op (ev_var rfl) (ev_call (ea_cons (ev_var rfl) (ea_cons (ev_var rfl) (ea_two (ev_var rfl) (ev_var rfl)))) ⟨(B, i, t, c), ⟨hB, hin i hm, hc⟩, rfl, rfl⟩) (rv_mulW (sign_mul hs w1)))
      (ev_op (ev_var rfl) (ev_call (ea_cons (ev_var rfl) (ea_cons (ev_var rfl) (ea_two (ev_var rfl) (ev_var rfl)))) ⟨(B, bestTo B.rows t c s b pre, t, c), ⟨hB, hin _ hp, hc⟩, rfl, rfl⟩) (rv_mulW (sign_mul hs w2))) rv_gt)) (fun e => ?_) fun e => wp_next ⟨?_, ?_⟩
    · refine wp_set (ev_var rfl) ⟨?_, ?_⟩
      · rw [hsn, if_pos (of_decide_eq_true e)]
        exact hm
      · rw [hsn, if_pos (of_decide_eq_true e)]
        rfl
    · rw [hsn, if_neg (of_decide_eq_false e)]
      exact hp
    · rw [hsn, if_neg (of_decide_eq_false e)]
      rfl
  · exact wp_ret (ev_var rfl) rfl
def toldOf (B : Book) (t c : Nat) (s : Int) : List Dt := [.int (sumV B.rows (bestRows B t c s) t c), natsT (bestRows B t c s)]
theorem wp_sums_by_blocks (F : Fx) (ds : List Dt) (d : Dt) (r : R_sums_by_blocks ds d) : Wp F (t_sums_by_blocks F.K F.cl) (ro0 ["book", "t", "c", "told", "sign", "rows", "block"] ds) (endP d) := by
  obtain ⟨⟨B, t, c⟩, ⟨hB, hp, hc⟩, rfl, rfl⟩ := r
  have hB : B.Ok := hB
  have h10 : B.rows.length ≤ 10 := hB.n10
  have hbl := blocks_len B.tabs B.rows
  refine wp_seq (wp_set (ev_tup ea_nil (sm rfl)) ?_)
  refine wp_seq (wp_forL [(-1 : Int), 1] Dt.int [4, 5, 6] (fun pre => [.im B.d, .im (natD t), .im (natD c), .im (.tup (pre.flatMap (toldOf B t c))), .no, .no, .no]) (fun _ => True) (ei_tup (ev_tup (ea_two (ev_neg ev_int) ev_int) (sm rfl))) rfl trivial (fun pre s post eq _ => ⟨[4], _, tg_name, ?_⟩) fun _ => ?_)
  · have hs : s = -1 ∨ s = 1 := by
      have : s ∈ [(-1 : Int), 1] := by
        rw [eq]
        exact List.mem_append.mpr (.inr List.mem_cons_self)
      simpa using this
    have hpre : pre.length ≤ 2 := by
      have e := congrArg List.length eq
      rw [List.length_append] at e
      have e : 2 = _ := e
      omega
    have hfl : (pre.flatMap (toldOf B t c)).length ≤ 2 * pre.length := flat_len _ 2 (fun _ => Nat.le_refl _) pre
    have lc := ev_lcA (F := F) (ρ := [.im B.d, .im (natD t), .im (natD c), .im (.tup (pre.flatMap (toldOf B t c))), .im (.int s), .no, .no]) (vs := [6]) (g := gName 6) (wi := iList F.K (tCall (sp_blocks F.K F.cl) [] E0 (tCons (tVar 0) tNil))) (te := tCall (sp_best_of F.K F.cl) [] E0 (tCons (tVar 0) (tCons (tVar 6) (tCons (tVar 1) (tCons (tVar 2) (tCons (tVar 4) tNil))))))
      (blocksV B.tabs B.rows) natsL (fun b => natD (bestV B.rows t c s b)) (ei_list (ev_call (ea_one (ev_var (d := B.d) rfl)) ⟨B, ⟨hB, hp⟩, rfl, rfl⟩)) (by omega) (clean1 (.inl rfl)) fun B' G b hb =>
      ⟨[6], _, fun k hk => hk, tg_name, ev_call (ea_cons (ev_var rfl) (ea_cons (ev_var rfl) (ea_cons (ev_var rfl) (ea_two (ev_var rfl) (ev_var rfl))))) ⟨(B, b, t, c, s), ⟨hB, (block_mem hb).1, block_lt hb, hc, hs⟩, rfl, rfl⟩, rfl⟩
    have e : (blocksV B.tabs B.rows).map (fun b => natD (bestV B.rows t c s b)) = (castL ((blocksV B.tabs B.rows).map (bestV B.rows t c s))).map .int := by
      unfold castL
      rw [List.map_map, List.map_map]
      rfl
    rw [e] at lc
    obtain ⟨b1, b2⟩ := bestRows_in (B := B) (t := t) (c := c) (sign := s)
    refine wp_seq (wp_set (ev_is (ev_CB (ea_one (ev_CB (ea_one lc) (rc_sortI (by unfold castL; rw [List.length_map, List.length_map]; omega)))) (rc_tuple (.inl rfl))) (by
      have z := Dt.lst.inj (sortN_cast ((blocksV B.tabs B.rows).map (bestV B.rows t c s)))
      rw [z])) ?_)
    refine wp_set (ev_op (ev_var rfl) (ev_tup (ea_two (ev_call (ea_cons (ev_var rfl) (ea_cons (ev_var rfl) (ea_two (ev_var rfl) (ev_var rfl)))) ⟨(B, bestRows B t c s, t, c), ⟨hB, by show (bestRows B t c s).length < 1000; omega, b1, hc⟩, rfl, rfl⟩) (ev_var rfl)) (sm rfl)) (rv_catT (by show _ + 2 ≤ _; omega))) ⟨trivial, ?_⟩
    rw [flat_snoc]
    rfl
  · exact wp_ret (ev_var rfl) rfl
theorem ev_first {F : Fx} {ρ : Ro} {te : TE} {l : List Int} {m : Int} {ss : List (List Nat)} {a b : Nat} (hm : m ∈ l) (hl : ss.length = l.length) (hs : ρ[a]? = some (.im (setsL ss))) (ht : ρ[b]? = some (.im (intsL l))) (h : Ev F te ρ (.int m) ρ) :
    Ev F (tOp (rIxL F.K) (tVar a) (tBM F.K "list" (rIndex F.K) (tVar b) (tCons te tNil))) ρ (natsT (ss.getD (firstAt l m) [])) ρ := by
  obtain ⟨h1, h2⟩ := first_ok hm
  have hlt : firstAt l m < ss.length := by
    rw [hl]
    exact (List.getElem?_eq_some_iff.mp h1).1
  refine ev_ixl (ev_var hs) (ev_index (ev_var ht) h h1 h2) ?_
  rw [List.getElem?_map, List.getD_eq_getElem?_getD, List.getElem?_eq_getElem hlt]
  rfl
theorem wp_sums_through (F : Fx) (ds : List Dt) (d : Dt) (r : R_sums_through ds d) : Wp F (t_sums_through F.K F.cl) (ro0 ["book", "t", "c", "some", "totals", "rows", "least", "greatest"] ds) (endP d) := by
  obtain ⟨⟨B, t, c⟩, ⟨hB, hc⟩, rfl, rfl⟩ := r
  have hB : B.Ok := hB
  have h10 : B.rows.length ≤ 10 := hB.n10
  have hml : (mendedV B).length ≤ 1024 := by
    have z := someV_len B h10
    have z2 : (mendedV B).length = (greatestOnes (someV B)).length := List.length_mergeSort ..
    have z3 : (greatestOnes (someV B)).length ≤ (someV B).length := by
      unfold greatestOnes
      rw [List.length_map]
      exact Nat.le_trans (List.length_filter_le ..) byBits_len
    omega
  have hne : totalsV B t c ≠ [] := fun e => mended_ne B (List.map_eq_nil_iff.mp e)
  obtain ⟨m1, m2⟩ := minV_ok hne
  obtain ⟨x1, x2⟩ := maxV_ok hne
  have hlen : (mendedV B).length = (totalsV B t c).length := by
    unfold totalsV
    rw [List.length_map]
  refine wp_seq (wp_set (ev_call (ea_one (ev_var rfl)) ⟨B, hB, rfl, rfl⟩) ?_)
  have lc := ev_lcA (F := F) (ρ := [.im B.d, .im (natD t), .im (natD c), .im (setsL (mendedV B)), .no, .no, .no, .no]) (vs := [5]) (g := gName 5) (te := tCall (sp_sum_in F.K F.cl) [] E0 (tCons (tVar 0) (tCons (tVar 5) (tCons (tVar 1) (tCons (tVar 2) tNil))))) (mendedV B) natsT (fun s => .int (sumV B.rows s t c)) (ei_list (ev_var (k := 3) (d := setsL (mendedV B)) rfl)) (by omega) (clean1 (.inl rfl)) fun B' G s hs => by
    obtain ⟨g1, g2⟩ := mended_in hs
    exact ⟨[5], _, fun k hk => hk, tg_name, ev_call (ea_cons (ev_var rfl) (ea_cons (ev_var rfl) (ea_two (ev_var rfl) (ev_var rfl)))) ⟨(B, s, t, c), ⟨hB, by show s.length < 1000; omega, g1, hc⟩, rfl, rfl⟩, rfl⟩
  have e : (mendedV B).map (fun s => Dt.int (sumV B.rows s t c)) = (totalsV B t c).map .int := by
    unfold totalsV
    rw [List.map_map]
    rfl
  rw [e] at lc
  refine wp_seq (wp_set lc ?_)
  refine wp_seq (wp_set (ev_CB (ea_one (ev_var rfl)) (rc_min m1 m2)) ?_)
  refine wp_seq (wp_set (ev_CB (ea_one (ev_var rfl)) (rc_max x1 x2)) ?_)
  exact wp_ret (ev_tup (ea_cons (ev_var rfl) (ea_cons (ev_first m1 hlen rfl rfl (ev_var rfl)) (ea_two (ev_var rfl) (ev_first x1 hlen rfl rfl (ev_var rfl))))) (sm rfl)) rfl
theorem wp_sums (F : Fx) (ds : List Dt) (d : Dt) (r : R_sums ds d) : Wp F (t_sums F.K F.cl) (ro0 ["book", "t", "c"] ds) (endP d) := by
  obtain ⟨⟨B, t, c⟩, ⟨hB, hc⟩, rfl, rfl⟩ := r
  refine wp_seq (wp_drop (ev_call (ea_cons (ev_var rfl) (ea_two (ev_var rfl) (ev_var rfl))) ⟨(B, t, c), hc, rfl, rfl⟩) ?_)
  refine wp_seq (wp_if (et_B (ev_call (ea_one (ev_var rfl)) ⟨B, trivial, rfl, rfl⟩)) (fun e => ?_) fun e => wp_next ?_)
  · refine wp_ret (ev_call (ea_cons (ev_var rfl) (ea_two (ev_var rfl) (ev_var rfl))) ⟨(B, t, c), ⟨hB, List.isEmpty_iff.mp e, hc⟩, rfl, rfl⟩) ?_
    show (byBlocksV B t c).d = (sumsV B t c).d
    rw [sumsV, if_pos e]
  · refine wp_ret (ev_call (ea_cons (ev_var rfl) (ea_two (ev_var rfl) (ev_var rfl))) ⟨(B, t, c), ⟨hB, hc⟩, rfl, rfl⟩) ?_
    show (throughV B t c).d = (sumsV B t c).d
    have e : B.rules.isEmpty = false := e
    rw [sumsV, if_neg (by rw [e]; exact Bool.false_ne_true)]
end Md
namespace Md
open PySem PySem.Spec PyProof.Rows L2 PySem.W
section
variable {F : Fx} {ρ ρ1 ρ2 : Ro} {te ta tb tc : TE} {d : Dt} {ds : List Dt} {i j k : Int} {n m : Nat}
theorem ev_isTup (h : Ev F te ρ (.tup ds) ρ1) : Ev F (tCB (rIsi F.K) (tCons te (tCons (tC (.ty "tuple")) tNil))) ρ (.bl true) ρ1 := ev_isi h rfl kt_tt
theorem et_notTup (h : Ev F te ρ (.tup ds) ρ) : EvT F (tNot (tB (tCB (rIsi F.K) (tCons te (tCons (tC (.ty "tuple")) tNil))))) ρ false ρ := et_not (et_B (ev_isTup h))
theorem et_lenNe {l : List Dt} (h : Ev F te ρ (.tup l) ρ) (hk : (l.length : Int) = k) : EvT F (tTest (tOp rNe (tCB (rLen F.K) (tCons te tNil)) (tC (.int k)))) ρ false ρ := by
  have z := rv_neI (F := F) (i := ((l.length : Nat) : Int)) (j := k)
  rw [decide_eq_true hk] at z
  exact et_test (ev_op (ev_len h (.inr rfl)) ev_int z)
/-- a ≤ b ≤ c -/
theorem ev_le2 (ha : Ev F ta ρ (.int i) ρ) (hb : Ev F tb ρ (.int j) ρ) (hc : Ev F tc ρ (.int k) ρ) (h1 : i ≤ j) (h2 : j ≤ k) : Ev F (tChain qLe qLe ta tb tc) ρ (.bl true) ρ :=
  ev_chain (a := true) (b := true) ha hb (by
    have z := rv_le (F := F) (i := i) (j := j)
    rwa [decide_eq_true h1] at z) fun _ => ⟨hc, by
    have z := rv_le (F := F) (i := j) (j := k)
    rwa [decide_eq_true h2] at z⟩
theorem ev_lt2 (ha : Ev F ta ρ (.int i) ρ) (hb : Ev F tb ρ (.int j) ρ) (hc : Ev F tc ρ (.int k) ρ) (h1 : i < j) (h2 : j < k) : Ev F (tChain qLt qLt ta tb tc) ρ (.bl true) ρ :=
  ev_chain (a := true) (b := true) ha hb (by
    have z := rv_lt (F := F) (i := i) (j := j)
    rwa [decide_eq_true h1] at z) fun _ => ⟨hc, by
    have z := rv_lt (F := F) (i := j) (j := k)
    rwa [decide_eq_true h2] at z⟩
theorem et_f (h : EvT F t ρ true ρ) : EvT F (tNot t) ρ false ρ := et_not h
theorem et_t (h : EvT F t ρ false ρ) : EvT F (tNot t) ρ true ρ := et_not h
theorem et_or2 {t u : TT} (h : EvT F t ρ false ρ) (g : EvT F u ρ false ρ) : EvT F (tOr t u) ρ false ρ := et_or (a := false) (b := false) h fun _ => g
theorem ev_and2 {t u : TE} (h : Ev F t ρ (.bl true) ρ) (g : Ev F u ρ (.bl true) ρ) : Ev F (tAndV t u) ρ (.bl true) ρ := ev_andV (a := true) (b := true) h fun _ => g
theorem et_no {r : R2} (ha : Ev F ta ρ (.int i) ρ) (hb : Ev F tb ρ (.int j) ρ) {b : Bool} (hr : Rv F r (.int i) (.int j) (.bl b)) (e : b = false) : EvT F (tTest (tOp r ta tb)) ρ false ρ := by
  rw [e] at hr
  exact et_test (ev_op ha hb hr)
end
theorem allTrue {α : Type} (l : List α) : (l.map fun _ => true).all id = true := by
  rw [List.all_map, List.all_eq_true]
  exact fun _ _ => rfl
theorem wp_is_whole (F : Fx) (ds : List Dt) (d : Dt) (r : R_is_whole ds d) : Wp F (t_is_whole F.K F.cl) (ro0 ["thing"] ds) (endP d) := by
  obtain ⟨i, _, rfl, rfl⟩ := r
  exact wp_ret (ev_and2 (ev_isi (ev_var rfl) rfl kt_ii) (ev_notV (a := false) (ev_isi (ev_var rfl) rfl kt_ib))) rfl
theorem wp_is_name (F : Fx) (ds : List Dt) (d : Dt) (r : R_is_name ds d) : Wp F (t_is_name F.K F.cl) (ro0 ["thing", "sign"] ds) (endP d) := by
  obtain ⟨x, ⟨h1, h2, h3⟩, rfl, rfl⟩ := r
  have hlen : x.length = x.cps.size := rfl
  refine wp_seq (wp_no (et_or2 (et_f (et_B (ev_isi (ev_var rfl) rfl kt_ss))) (et_or2 (et_no (ev_CB (ea_one (ev_var rfl)) (rc_lenZ (by omega))) ev_int rv_lt (decide_eq_false (by omega))) (et_no (ev_CB (ea_one (ev_var rfl)) (rc_lenZ (by omega))) ev_int rv_gt (decide_eq_false (by omega))))) (wp_next ?_))
  have lc := ev_lcA (F := F) (ρ := [.im (.str x), .no]) (vs := [1]) (g := gName 1) (te := tOp qInS (tVar 1) (tC (.str "abcdefghijklmnopqrstuvwxyz"))) x.cps.toList (fun c => .str ⟨#[c]⟩) (fun _ => .bl true) (ei_str (ev_var (k := 0) (d := .str x) rfl)) (by rw [Array.length_toList]; omega) (clean1 (.inl rfl)) fun B' G c hc =>
    ⟨[1], _, fun k hk => hk, tg_name, ev_is (ev_op (ev_var rfl) ev_str rv_inS) (by
      obtain ⟨g1, g2⟩ := h3 c hc
      have hl : ∀ k : Fin 26, 97 + k.val ∈ (letters.cps.toList) := by decide +kernel
      have z := hl ⟨c - 97, by omega⟩
      have e : 97 + (c - 97) = c := by omega
      simp only [e] at z
      exact congrArg Dt.bl (decide_eq_true z)), rfl⟩
  have e : x.cps.toList.map (fun _ => Dt.bl true) = (x.cps.toList.map fun _ => true).map .bl := by rw [List.map_map]; rfl
  rw [e] at lc
  exact wp_ret (ev_is (ev_CB (ea_one lc) rc_all) (congrArg Dt.bl (allTrue _))) rfl
theorem wp_is_value (F : Fx) (ds : List Dt) (d : Dt) (r : R_is_value ds d) : Wp F (t_is_value F.K F.cl) (ro0 ["thing"] ds) (endP d) := by
  obtain ⟨c, h, rfl, rfl⟩ := r
  cases c with
  | z i =>
    have h : 0 - bey < i ∧ i < bey := h
    refine wp_seq (wp_yes (et_and (a := true) (b := true) (et_B (ev_isi (ev_var rfl) rfl kt_ii)) fun _ => et_t (et_B (ev_isi (b := false) (ev_var rfl) rfl kt_ib))) ?_)
    exact wp_ret (ev_lt2 (ev_op ev_int ev_int rv_sub) (ev_var rfl) ev_int h.1 h.2) rfl
  | s x =>
    refine wp_seq (wp_no (et_and (a := false) (b := false) (et_B (ev_isi (ev_var rfl) rfl kt_si)) fun z => by cases z) (wp_next ?_))
    exact wp_ret (ev_call (ea_one (ev_var rfl)) ⟨x, h, rfl, rfl⟩) rfl
theorem wp_is_table (F : Fx) (ds : List Dt) (d : Dt) (r : R_is_table ds d) : Wp F (t_is_table F.K F.cl) (ro0 ["thing"] ds) (endP d) := by
  obtain ⟨⟨w, k⟩, ⟨h1, h2, h3⟩, rfl, rfl⟩ := r
  have h1 : 1 ≤ w := h1
  have h2 : w ≤ 4 := h2
  have h3 : k ≤ w := h3
  refine wp_seq (wp_no (et_or2 (et_notTup (ev_var rfl)) (et_lenNe (l := [natD w, natD k]) (ev_var rfl) rfl)) (wp_next ?_))
  refine wp_seq (wp_no (et_or2 (et_f (et_B (ev_call (ea_one (ev_at 0 (ev_var rfl) rfl)) ⟨((w : Nat) : Int), trivial, rfl, rfl⟩))) (et_f (et_B (ev_call (ea_one (ev_at 1 (ev_var rfl) rfl)) ⟨((k : Nat) : Int), trivial, rfl, rfl⟩)))) (wp_next ?_))
  exact wp_ret (ev_and2 (ev_le2 (i := 1) (j := ((w : Nat) : Int)) (k := 4) ev_int (ev_at 0 (ev_var rfl) rfl) ev_int (by omega) (by omega)) (ev_le2 (i := 0) (j := ((k : Nat) : Int)) (k := ((w : Nat) : Int)) ev_int (ev_at 1 (ev_var rfl) rfl) (ev_at 0 (ev_var rfl) rfl) (by omega) (by omega))) rfl
theorem wp_is_in (F : Fx) (ds : List Dt) (d : Dt) (r : R_is_in ds d) : Wp F (t_is_in F.K F.cl) (ro0 ["tables", "t"] ds) (endP d) := by
  obtain ⟨⟨tabs, t⟩, h, rfl, rfl⟩ := r
  exact wp_ret (ev_and2 (ev_call (ea_one (ev_var rfl)) ⟨((t : Nat) : Int), trivial, rfl, rfl⟩) (ev_below (ev_var (d := natD t) rfl) (ev_lenX (ev_var rfl)) h)) rfl
theorem wp_is_column (F : Fx) (ds : List Dt) (d : Dt) (r : R_is_column ds d) : Wp F (t_is_column F.K F.cl) (ro0 ["tables", "t", "c"] ds) (endP d) := by
  obtain ⟨⟨tabs, t, c⟩, ⟨T, h1, h2⟩, rfl, rfl⟩ := r
  exact wp_ret (ev_and2 (ev_call (ea_one (ev_var rfl)) ⟨((c : Nat) : Int), trivial, rfl, rfl⟩) (ev_below (ev_var (d := natD c) rfl) (ev_at 0 (d := natD T.1) (ev_ixv (ev_var rfl) (ev_var rfl) (tabs_get h1)) rfl) h2)) rfl
theorem nat_get {l : List Nat} {k t : Nat} (h : l[k]? = some t) : (l.map natD)[k]? = some (natD t) := get_map h
theorem wp_is_side (F : Fx) (ds : List Dt) (d : Dt) (r : R_is_side ds d) : Wp F (t_is_side F.K F.cl) (ro0 ["tables", "there", "side"] ds) (endP d) := by
  obtain ⟨⟨tabs, there, s⟩, h, rfl, rfl⟩ := r
  cases s with
  | is c =>
    refine wp_seq (wp_no (et_or2 (et_notTup (ev_var rfl)) (et_no (ev_len (ev_var rfl) (.inr rfl)) ev_int rv_lt rfl)) (wp_next ?_))
    refine wp_seq (wp_yes (et_is (et_test (ev_op (ev_len (ds := [.str "is", c.d]) (ev_var rfl) (.inr rfl)) ev_int rv_eqI)) rfl) ?_)
    refine wp_ret (ev_and2 (ev_is (ev_op (ev_at 0 (ev_var rfl) rfl) ev_str rv_eqS) (congrArg Dt.bl (by decide +kernel))) (ev_call (ea_one (ev_at 1 (ev_var rfl) rfl)) ⟨c, h, rfl, rfl⟩)) rfl
  | cell k c =>
    obtain ⟨t, g1, g2⟩ := h
    have hlt : k < there.length := (List.getElem?_eq_some_iff.mp g1).1
    refine wp_seq (wp_no (et_or2 (et_notTup (ev_var rfl)) (et_no (ev_len (ev_var rfl) (.inr rfl)) ev_int rv_lt rfl)) (wp_next ?_))
    refine wp_seq (wp_no (et_is (et_test (ev_op (ev_len (ds := [.str "cell", natD k, natD c]) (ev_var rfl) (.inr rfl)) ev_int rv_eqI)) rfl) (wp_next ?_))
    refine wp_seq (wp_no (et_or2 (et_lenNe (l := [.str "cell", natD k, natD c]) (ev_var rfl) rfl) (et_or2 (et_is (et_test (ev_op (ev_at 0 (ev_var rfl) rfl) ev_str rv_neS)) (by decide +kernel)) (et_or2 (et_f (et_B (ev_call (ea_one (ev_at 1 (ev_var rfl) rfl)) ⟨((k : Nat) : Int), trivial, rfl, rfl⟩))) (et_f (et_test (ev_below (ev_at 1 (d := natD k) (ev_var rfl) rfl) (ev_lenX (ev_var rfl)) hlt)))))) (wp_next ?_))
    exact wp_ret (ev_call (ea_cons (ev_var rfl) (ea_two (ev_ixv (ev_var rfl) (ev_at 1 (ev_var rfl) rfl) (nat_get g1)) (ev_at 2 (ev_var rfl) rfl))) ⟨(tabs, t, c), g2, rfl, rfl⟩) rfl
theorem wp_are_tests (F : Fx) (hW : ∀ H : Hp, SqT F.K H (He.ga F.K "WORDS") (wordsOf.map V.str)) (ds : List Dt) (d : Dt) (r : R_are_tests ds d) : Wp F (t_are_tests F.K F.cl) (ro0 ["tables", "there", "tests", "test"] ds) (endP d) := by
  obtain ⟨⟨tabs, there, ts⟩, ⟨h1, h2, h3⟩, rfl, rfl⟩ := r
  have h1 : 1 ≤ ts.length := h1
  have h2 : ts.length ≤ 3 := h2
  refine wp_seq (wp_no (et_or2 (et_notTup (ev_var rfl)) (et_f (et_test (ev_le2 (j := ((ts.length : Nat) : Int)) ev_int (ev_lenX (l := ts) (ev_var rfl)) ev_int (by omega) (by omega))))) (wp_next ?_))
  refine wp_seq (wp_forL ts Test.d [3] (fun _ => [.im (tabsD tabs), .im (natsT there), .im (.tup (ts.map Test.d)), .no]) (fun _ => True) (ei_tup (ev_var rfl)) rfl trivial (fun pre t post eq _ => ⟨[3], _, tg_name, ?_⟩) fun _ => wp_ret ev_bl rfl)
  have hm : t ∈ ts := by
    rw [eq]
    exact List.mem_append.mpr (.inr List.mem_cons_self)
  obtain ⟨g1, g2, g3⟩ := h3 t hm
  have hw : EvT F (tTest (tOp (rIn F.K true) (tOp (rIxT F.K) (tVar 3) (tC (.int 1))) (tC (.ref (He.ga F.K "WORDS"))))) [.im (tabsD tabs), .im (natsT there), .im (.tup (ts.map Test.d)), .im t.d] false [.im (tabsD tabs), .im (natsT there), .im (.tup (ts.map Test.d)), .im t.d] := by
    refine et_test fun O σ H R Q q => ?_
    have z := ev_at (F := F) 1 (d := .str t.w) (ev_var (F := F) (k := 3) (d := t.d) (ρ := [.im (tabsD tabs), .im (natsT there), .im (.tup (ts.map Test.d)), .im t.d]) rfl) rfl
    refine z O σ H R _ fun v O1 H1 l kk R1 rv => ?_
    cases rv
    refine ⟨_, _, rfl, .inr (hW H1), rfl, rfl, ?_⟩
    have e : inV (.str t.w) (wordsOf.map V.str) = true := by
      unfold inV
      rw [List.any_map, List.any_eq_true]
      exact ⟨t.w, g2, beq_self_eq_true t.w⟩
    rw [e]
    exact q _ O1 H1 l kk R1 (.bl false)
  refine wp_seq (wp_no (et_or2 (et_notTup (ev_var rfl)) (et_or2 (et_lenNe (l := [t.l.d, .str t.w, t.r.d]) (ev_var rfl) rfl) hw)) (wp_next ?_))
  refine wp_no (et_or2 (et_f (et_B (ev_call (ea_cons (ev_var rfl) (ea_two (ev_var rfl) (ev_at 0 (ev_var rfl) rfl))) ⟨(tabs, there, t.l), g1, rfl, rfl⟩))) (et_f (et_B (ev_call (ea_cons (ev_var rfl) (ea_two (ev_var rfl) (ev_at 2 (ev_var rfl) rfl))) ⟨(tabs, there, t.r), g3, rfl, rfl⟩)))) (wp_next ⟨trivial, rfl⟩)
theorem wp_are_columns (F : Fx) (ds : List Dt) (d : Dt) (r : R_are_columns ds d) : Wp F (t_are_columns F.K F.cl) (ro0 ["tables", "t", "columns", "many", "c"] ds) (endP d) := by
  obtain ⟨⟨tabs, t, cs, n⟩, ⟨h1, h2, h3⟩, rfl, rfl⟩ := r
  have h1 : cs.length = n := h1
  have h2 : n < 1000 := h2
  subst h1
  refine wp_seq (wp_no (et_or2 (et_notTup (ev_var rfl)) (et_no (ev_lenX (l := cs) (ev_var rfl)) (ev_var rfl) rv_neI (by rw [decide_eq_true rfl]; rfl))) (wp_next ?_))
  have lc := ev_lcA (F := F) (ρ := [.im (tabsD tabs), .im (natD t), .im (natsT cs), .im (natD cs.length), .no]) (vs := [4]) (g := gName 4) (te := tCall (sp_is_column F.K F.cl) [] E0 (tCons (tVar 0) (tCons (tVar 1) (tCons (tVar 4) tNil)))) cs natD (fun _ => .bl true) (ei_tup (ev_var (k := 2) (d := natsT cs) rfl)) (by omega) (clean1 (.inl rfl)) fun B' G c hc =>
    ⟨[4], _, fun k hk => hk, tg_name, ev_call (ea_cons (ev_var rfl) (ea_two (ev_var rfl) (ev_var rfl))) ⟨(tabs, t, c), h3 c hc, rfl, rfl⟩, rfl⟩
  have e : cs.map (fun _ => Dt.bl true) = (cs.map fun _ => true).map .bl := by rw [List.map_map]; rfl
  rw [e] at lc
  exact wp_ret (ev_is (ev_CB (ea_one lc) rc_all) (congrArg Dt.bl (allTrue _))) rfl
theorem wp_is_tie (F : Fx) (ds : List Dt) (d : Dt) (r : R_is_tie ds d) : Wp F (t_is_tie F.K F.cl) (ro0 ["tables", "rule", "columns"] ds) (endP d) := by
  obtain ⟨⟨tabs, r⟩, ⟨hk, h⟩, rfl, rfl⟩ := r
  cases r with
  | never t ts => cases hk
  | apart t u ts => cases hk
  | tie t cs u ds =>
    obtain ⟨g1, g2, g3, g4, g5, g6, g7⟩ := h
    refine wp_seq (wp_no (et_or2 (et_lenNe (l := [.str "tie", natD t, natsT cs, natD u, natsT ds]) (ev_var rfl) rfl) (et_or2 (et_f (et_B (ev_call (ea_two (ev_var rfl) (ev_at 1 (ev_var rfl) rfl)) ⟨(tabs, t), g1, rfl, rfl⟩))) (et_f (et_B (ev_call (ea_two (ev_var rfl) (ev_at 3 (ev_var rfl) rfl)) ⟨(tabs, u), g2, rfl, rfl⟩))))) (wp_next ?_))
    refine wp_seq (wp_set (ev_at 2 (d := natsT cs) (ev_var rfl) rfl) ?_)
    refine wp_seq (wp_no (et_or2 (et_notTup (ev_var rfl)) (et_f (et_test (ev_le2 (j := ((cs.length : Nat) : Int)) ev_int (ev_lenX (l := cs) (ev_var rfl)) ev_int (by omega) (by omega))))) (wp_next ?_))
    refine wp_ret (ev_and2 (ev_call (ea_cons (ev_var rfl) (ea_cons (ev_at 1 (ev_var rfl) rfl) (ea_two (ev_var rfl) (ev_lenX (l := cs) (ev_var rfl))))) ⟨(tabs, t, cs, cs.length), ⟨rfl, by show cs.length < 1000; omega, g6⟩, rfl, rfl⟩)
      (ev_call (ea_cons (ev_var rfl) (ea_cons (ev_at 3 (ev_var rfl) rfl) (ea_two (ev_at 4 (ev_var rfl) rfl) (ev_lenX (l := cs) (ev_var rfl))))) ⟨(tabs, u, ds, cs.length), ⟨g5, by show cs.length < 1000; omega, g7⟩, rfl, rfl⟩)) rfl
theorem wp_is_rule (F : Fx) (ds : List Dt) (d : Dt) (r : R_is_rule ds d) : Wp F (t_is_rule F.K F.cl) (ro0 ["tables", "rule"] ds) (endP d) := by
  obtain ⟨⟨tabs, r⟩, h, rfl, rfl⟩ := r
  cases r with
  | never t ts =>
    refine wp_seq (wp_yes (et_is (et_test (ev_op (ev_at 0 (ev_var rfl) rfl) ev_str rv_eqS)) (by decide +kernel)) ?_)
    refine wp_ret (ev_and2 (ev_is (ev_op (ev_len (ds := [.str "never", natD t, .tup (ts.map Test.d)]) (ev_var rfl) (.inr rfl)) ev_int rv_eqI) (congrArg Dt.bl (decide_eq_true rfl))) (ev_and2 (ev_call (ea_two (ev_var rfl) (ev_at 1 (ev_var rfl) rfl)) ⟨(tabs, t), h.1, rfl, rfl⟩)
      (ev_call (ea_cons (ev_var rfl) (ea_two (ev_tup (ea_one (ev_at 1 (ev_var rfl) rfl)) (sm rfl)) (ev_at 2 (ev_var rfl) rfl))) ⟨(tabs, [t], ts), h.2, rfl, rfl⟩))) rfl
  | apart t u ts =>
    refine wp_seq (wp_no (et_is (et_test (ev_op (ev_at 0 (ev_var rfl) rfl) ev_str rv_eqS)) (by decide +kernel)) (wp_next ?_))
    refine wp_seq (wp_yes (et_is (et_test (ev_op (ev_at 0 (ev_var rfl) rfl) ev_str rv_eqS)) (by decide +kernel)) ?_)
    refine wp_seq (wp_no (et_or2 (et_lenNe (l := [.str "apart", natD t, natD u, .tup (ts.map Test.d)]) (ev_var rfl) rfl) (et_or2 (et_f (et_B (ev_call (ea_two (ev_var rfl) (ev_at 1 (ev_var rfl) rfl)) ⟨(tabs, t), h.1, rfl, rfl⟩))) (et_f (et_B (ev_call (ea_two (ev_var rfl) (ev_at 2 (ev_var rfl) rfl)) ⟨(tabs, u), h.2.1, rfl, rfl⟩))))) (wp_next ?_))
    exact wp_ret (ev_call (ea_cons (ev_var rfl) (ea_two (ev_tup (ea_two (ev_at 1 (ev_var rfl) rfl) (ev_at 2 (ev_var rfl) rfl)) (sm rfl)) (ev_at 3 (ev_var rfl) rfl))) ⟨(tabs, [t, u], ts), h.2.2, rfl, rfl⟩) rfl
  | tie t cs u ds =>
    refine wp_seq (wp_no (et_is (et_test (ev_op (ev_at 0 (ev_var rfl) rfl) ev_str rv_eqS)) (by decide +kernel)) (wp_next ?_))
    refine wp_seq (wp_no (et_is (et_test (ev_op (ev_at 0 (ev_var rfl) rfl) ev_str rv_eqS)) (by decide +kernel)) (wp_next ?_))
    exact wp_ret (ev_and2 (ev_is (ev_op (ev_at 0 (ev_var rfl) rfl) ev_str rv_eqS) (congrArg Dt.bl (by decide +kernel))) (ev_call (ea_two (ev_var rfl) (ev_var rfl)) ⟨(tabs, .tie t cs u ds), ⟨rfl, h⟩, rfl, rfl⟩)) rfl
theorem wp_is_row (F : Fx) (ds : List Dt) (d : Dt) (r : R_is_row ds d) : Wp F (t_is_row F.K F.cl) (ro0 ["tables", "row", "value"] ds) (endP d) := by
  obtain ⟨⟨tabs, r⟩, ⟨⟨T, h1, h2, h3⟩, h4⟩, rfl, rfl⟩ := r
  have h2 : r.cs.length = T.1 := h2
  have h4 : r.cs.length < 1000 := h4
  have hlt : r.t < tabs.length := (List.getElem?_eq_some_iff.mp h1).1
  refine wp_seq (wp_no (et_or2 (et_notTup (ev_var rfl)) (et_or2 (et_lenNe (l := [natD r.t, .tup (r.cs.map Cell.d)]) (ev_var rfl) rfl) (et_f (et_B (ev_call (ea_two (ev_var rfl) (ev_at 0 (ev_var rfl) rfl)) ⟨(tabs, r.t), hlt, rfl, rfl⟩))))) (wp_next ?_))
  refine wp_seq (wp_no (et_or2 (et_notTup (ev_at 1 (ev_var rfl) rfl)) (et_no (ev_lenX (l := r.cs) (ev_at 1 (ev_var rfl) rfl)) (ev_at 0 (d := natD T.1) (ev_ixv (k := r.t) (ev_var rfl) (ev_at 0 (ev_var rfl) rfl) (tabs_get h1)) rfl) rv_neI (by rw [decide_eq_true (by omega)]; rfl))) (wp_next ?_))
  have lc := ev_lcA (F := F) (ρ := [.im (tabsD tabs), .im r.d, .no]) (vs := [2]) (g := gName 2) (te := tCall (sp_is_value F.K F.cl) [] E0 (tCons (tVar 2) tNil)) r.cs Cell.d (fun _ => .bl true) (ei_tup (ev_at 1 (ev_var (k := 1) (d := r.d) rfl) rfl)) (by omega) (clean1 (.inl rfl)) fun B' G c hc =>
    ⟨[2], _, fun k hk => hk, tg_name, ev_call (ea_one (ev_var rfl)) ⟨c, h3 c hc, rfl, rfl⟩, rfl⟩
  have e : r.cs.map (fun _ => Dt.bl true) = (r.cs.map fun _ => true).map .bl := by rw [List.map_map]; rfl
  rw [e] at lc
  exact wp_ret (ev_is (ev_CB (ea_one lc) rc_all) (congrArg Dt.bl (allTrue _))) rfl
theorem wp_check_rows (F : Fx) (ds : List Dt) (d : Dt) (r : R_check_rows ds d) : Wp F (t_check_rows F.K F.cl) (ro0 ["tables", "rows", "place", "row"] ds) (endP d) := by
  obtain ⟨⟨tabs, rows⟩, ⟨h1, h2, h3⟩, rfl, rfl⟩ := r
  have h1 : ∀ r ∈ rows, r.Ok tabs ∧ r.cs.length < 1000 := h1
  have h2 : rows.Nodup := h2
  refine wp_seq (wp_forL rows.zipIdx (fun q => .tup [natD q.2, q.1.d]) [2, 3] (fun _ => [.im (tabsD tabs), .im (rowsD rows), .no, .no]) (fun _ => True) (by rw [← enumD_map rows Row.d]; exact ei_enumT (ea_one (ev_var rfl))) rfl trivial (fun pre q post eq _ => ⟨[2, 3], _, tg_tup rfl (tgs_cons tg_name (tgs_cons tg_name tgs_nil)), ?_⟩) fun _ => ?_)
  · have hm : q ∈ rows.zipIdx := by
      rw [eq]
      exact List.mem_append.mpr (.inr List.mem_cons_self)
    exact wp_no (et_f (et_B (ev_call (ea_two (ev_var rfl) (ev_var rfl)) ⟨(tabs, q.1), h1 q.1 (List.mem_of_getElem? (zip_mem hm)), rfl, rfl⟩))) (wp_next ⟨trivial, rfl⟩)
  · refine wp_forL rows.zipIdx (fun q => .tup [natD q.2, q.1.d]) [2, 3] (fun _ => [.im (tabsD tabs), .im (rowsD rows), .no, .no]) (fun _ => True) (by rw [← enumD_map rows Row.d]; exact ei_enumT (ea_one (ev_var rfl))) rfl trivial (fun pre q post eq _ => ⟨[2, 3], _, tg_tup rfl (tgs_cons tg_name (tgs_cons tg_name tgs_nil)), ?_⟩) fun _ => rfl
    have hm : q ∈ rows.zipIdx := by
      rw [eq]
      exact List.mem_append.mpr (.inr List.mem_cons_self)
    have hq := zip_mem hm
    have hn : ∀ r ∈ rows, Nice 2 r.d := fun r hr => nice_row (h1 r hr).1.cells
    have hnot : q.1 ∉ rows.take q.2 := fun z => by
      obtain ⟨k, hk, e⟩ := List.mem_iff_getElem.mp z
      rw [List.length_take] at hk
      rw [List.getElem_take] at e
      obtain ⟨hq1, hq2⟩ := List.getElem?_eq_some_iff.mp hq
      have hk1 : k < rows.length := by omega
      have e2 : rows[k] = rows[q.2] := e.trans hq2.symm
      exact (List.pairwise_iff_getElem.mp h2) k q.2 hk1 hq1 (by omega) e2
    refine wp_no (et_test (ev_op (d2 := .tup ((rows.take q.2).map Row.d)) (ev_var rfl) (ev_is (ev_sl (ev_var (d := rowsD rows) rfl) eo_none (eo_some (ev_var rfl)) rs_tup) (by rw [cut_take, ← List.map_take])) (rv_inDT (n := 2) (b := false) (hn _ (List.mem_of_getElem? hq)) (fun x hx => by
      obtain ⟨r, hr, rfl⟩ := List.mem_map.mp hx
      exact hn r (List.mem_of_mem_take hr)) (by decide) ⟨fun z => (nomatch z), fun z => absurd ((mem_map_inj Row.d_inj).mp z) hnot⟩))) (wp_next ⟨trivial, rfl⟩)
theorem wp_book_of (F : Fx) (ds : List Dt) (d : Dt) (r : R_book_of ds d) : Wp F (t_book_of F.K F.cl) (ro0 ["tables", "rules", "rows", "place", "table", "rule"] ds) (endP d) := by
  obtain ⟨B, hB, rfl, rfl⟩ := r
  have hB : B.Ok := hB
  have b1 := hB.t1
  have b2 := hB.t4
  have b3 := hB.r6
  have b4 := hB.n10
  refine wp_seq (wp_no (et_or2 (et_no (ev_lenX (l := B.tabs) (ev_var rfl)) ev_int rv_gt (decide_eq_false (by omega))) (et_or2 (et_no (ev_lenX (l := B.rules) (ev_var rfl)) ev_int rv_gt (decide_eq_false (by omega))) (et_no (ev_lenX (l := B.rows) (ev_var rfl)) ev_int rv_gt (decide_eq_false (by omega))))) (wp_next ?_))
  refine wp_seq (wp_forL B.tabs.zipIdx (fun q => .tup [natD q.2, tabD q.1]) [3, 4, 5] (fun _ => [.im (tabsD B.tabs), .im (rulesD B.rules), .im (rowsD B.rows), .no, .no, .no]) (fun _ => True) (by rw [← enumD_map B.tabs tabD]; exact ei_enumT (ea_one (ev_var rfl))) rfl trivial (fun pre q post eq _ => ⟨[3, 4], _, tg_tup rfl (tgs_cons tg_name (tgs_cons tg_name tgs_nil)), ?_⟩) fun _ => ?_)
  · have hm : q ∈ B.tabs.zipIdx := by
      rw [eq]
      exact List.mem_append.mpr (.inr List.mem_cons_self)
    exact wp_no (et_f (et_B (ev_call (ea_one (ev_var rfl)) ⟨q.1, hB.tab _ (List.mem_of_getElem? (zip_mem hm)), rfl, rfl⟩))) (wp_next ⟨trivial, rfl⟩)
  refine wp_seq (wp_no (et_no (ev_lenX (l := B.tabs) (ev_var rfl)) ev_int rv_eqI (decide_eq_false (by omega))) (wp_next ?_))
  refine wp_seq (wp_forL B.rules.zipIdx (fun q => .tup [natD q.2, q.1.d]) [3, 4, 5] (fun _ => [.im (tabsD B.tabs), .im (rulesD B.rules), .im (rowsD B.rows), .no, .no, .no]) (fun _ => True) (by rw [← enumD_map B.rules Rule.d]; exact ei_enumT (ea_one (ev_var rfl))) rfl trivial (fun pre q post eq _ => ⟨[3, 5], _, tg_tup rfl (tgs_cons tg_name (tgs_cons tg_name tgs_nil)), ?_⟩) fun _ => ?_)
  · have hm : q ∈ B.rules.zipIdx := by
      rw [eq]
      exact List.mem_append.mpr (.inr List.mem_cons_self)
    exact wp_no (et_f (et_B (ev_call (ea_two (ev_var rfl) (ev_var rfl)) ⟨(B.tabs, q.1), hB.rule _ (List.mem_of_getElem? (zip_mem hm)), rfl, rfl⟩))) (wp_next ⟨trivial, rfl⟩)
  have wide : ∀ r ∈ B.rows, r.Ok B.tabs ∧ r.cs.length < 1000 := fun r hr => by
    have h := hB.row r hr
    refine ⟨h, ?_⟩
    obtain ⟨T, h1, h2, _⟩ := h
    have := (hB.tab T (List.mem_of_getElem? h1)).2.1
    omega
  refine wp_seq (wp_drop (ev_call (ea_two (ev_var rfl) (ev_var rfl)) ⟨(B.tabs, B.rows), ⟨wide, hB.nd, by show B.rows.length < 1000; omega⟩, rfl, rfl⟩) ?_)
  exact wp_ret (ev_tup (ea_cons (ev_CB (ea_one (ev_var rfl)) (rc_tuple (.inr rfl))) (ea_two (ev_CB (ea_one (ev_var rfl)) (rc_tuple (.inr rfl))) (ev_CB (ea_one (ev_var rfl)) (rc_tuple (.inr rfl))))) (sm rfl)) rfl
end Md
namespace Md
open PySem PySem.Spec PyProof.Rows L2 PySem.W
theorem lg {x : Int} (h : x.natAbs < 2 ^ 2000) : x.natAbs.log2 < 2000 := by
  by_cases h0 : x.natAbs = 0
  · rw [h0]
    decide
  · exact (Nat.log2_lt h0).mpr h
theorem mulOk {x y : Int} (h : x.natAbs < 2 ^ 2000) (g : y.natAbs < 2 ^ 2000) : CMulW x y := by
  have h1 := lg h
  have h2 := lg g
  show x.natAbs.log2 + y.natAbs.log2 < 1000000
  omega
theorem divOk {x y : Int} (h0 : 0 < y) (h : y.natAbs < 2 ^ 2000) : CDivW x y := ⟨h0, Nat.lt_trans (lg h) (by decide)⟩
theorem abs_small {x b : Int} (h0 : 0 ≤ x) (h : x < b) (hb : b ≤ 2 ^ 2000) : x.natAbs < 2 ^ 2000 := by
  have : x < 2 ^ 2000 := by omega
  omega
theorem bits_lt {x : Int} (h : x.natAbs < 2 ^ 2000) : (Builtin.Int.intBits x : Int) ≤ 2001 := by
  unfold Builtin.Int.intBits
  split
  · omega
  · have := lg h
    omega
section
variable {F : Fx} {ρ ρ1 ρ2 : Ro} {te ta tb : TE} {i j : Int}
theorem ev_modC (h : Ev F te ρ (.int i) ρ1) (hj : 0 < j) : Ev F (tOp qMod te (tC (.int j))) ρ (.int (i % j)) ρ1 := ev_op h ev_int (rv_mod hj)
theorem ev_divC (h : Ev F te ρ (.int i) ρ1) (hj : 0 < j) (hb : j.natAbs < 2 ^ 2000) : Ev F (tOp qDiv te (tC (.int j))) ρ (.int (i / j)) ρ1 := ev_op h ev_int (rv_div (divOk hj hb))
theorem ev_ten : Ev F (tOp qPow (tOp qPow (tC (.int 10)) (tC (.int 60))) (tC (.int 10))) ρ (.int tenP) ρ :=
  ev_is (ev_op (ev_op ev_int ev_int (rv_pow (by decide) (by decide +kernel))) ev_int (rv_pow (by decide) (by decide +kernel))) (congrArg Dt.int (by decide +kernel))
theorem ev_pow {r : Int} (h0 : 0 ≤ j) (h : (Builtin.Int.intBits i : Int) * j ≤ 2 ^ 27) (e : i ^ j.toNat = r) : Ev F (tOp qPow (tC (.int i)) (tC (.int j))) ρ (.int r) ρ := ev_is (ev_op ev_int ev_int (rv_pow h0 h)) (congrArg Dt.int e)
end
theorem tenP_pos : 0 < tenP := by decide +kernel
theorem wp_law_cell_at (F : Fx) (ds : List Dt) (d : Dt) (r : R_law_cell_at ds d) : Wp F (t_law_cell_at F.K F.cl) (ro0 ["_law_script", "_law_k"] ds) (endP d) := by
  obtain ⟨⟨ns, k⟩, _, rfl, rfl⟩ := r
  have z := ev_len (F := F) (ev_var (k := 0) (d := intsL ns) (ρ := [.im (intsL ns), .im (natD k)]) rfl) (.inl rfl)
  rw [List.length_map] at z
  refine wp_seq (wp_if (et_test (ev_op (d1 := natD k) (ev_var rfl) z rv_ltN)) (fun e => ?_) fun e => wp_next ?_)
  · have hlt : k < ns.length := of_decide_eq_true e
    refine wp_ret (ev_ixl (ev_var rfl) (ev_var rfl) (get_map (List.getElem?_eq_getElem hlt))) ?_
    show Dt.int _ = Dt.int (scr ns k)
    rw [scr, List.getD_eq_getElem?_getD, List.getElem?_eq_getElem hlt]
    rfl
  · have hge : ¬ k < ns.length := of_decide_eq_false e
    refine wp_ret ev_int ?_
    show Dt.int _ = Dt.int (scr ns k)
    rw [scr, List.getD_eq_getElem?_getD, List.getElem?_eq_none (by omega)]
    rfl
theorem pow2000 : (1000000000000000000000000000000000000000000000000000 : Int) ≤ 2 ^ 2000 := by decide +kernel
theorem odd_bound {c p : Int} (h : PrimeOk p) : 0 ≤ oddV c p ∧ oddV c p < 2147483648 := by
  obtain ⟨h1, h2⟩ := h
  unfold oddV
  have a1 := Int.emod_nonneg ((c % 2147483629 + 7) * 48271) (b := p) (by omega)
  have a2 := Int.emod_lt_of_pos ((c % 2147483629 + 7) * 48271) (b := p) (by omega)
  omega
theorem small51 {x : Int} (h0 : -1000000000000000000000000000000000000000000000000000 < x) (h1 : x < 1000000000000000000000000000000000000000000000000000) : x.natAbs < 2 ^ 2000 := by
  have h : (x.natAbs : Int) < 1000000000000000000000000000000000000000000000000000 := by omega
  have := pow2000
  have h3 : (x.natAbs : Int) < 2 ^ 2000 := Int.lt_of_lt_of_le h this
  have e : ((2 ^ 2000 : Nat) : Int) = (2 : Int) ^ 2000 := Int.natCast_pow 2 2000
  omega
theorem wp_law_mix (F : Fx) (ds : List Dt) (d : Dt) (r : R_law_mix ds d) : Wp F (t_law_mix F.K F.cl) (ro0 ["_law_cell", "_law_prime", "_law_number"] ds) (endP d) := by
  obtain ⟨⟨c, p⟩, hp, rfl, rfl⟩ := r
  have hp : PrimeOk p := hp
  obtain ⟨o1, o2⟩ := odd_bound (c := c) hp
  obtain ⟨p1, p2⟩ := hp
  have m1 := Int.emod_nonneg c (b := 2147483629) (by decide)
  have m2 := Int.emod_lt_of_pos c (b := 2147483629) (by decide)
  have q1 := Int.emod_nonneg (oddV c p * oddV c p) (b := 2147483579) (by decide)
  have q2 := Int.emod_lt_of_pos (oddV c p * oddV c p) (b := 2147483579) (by decide)
  refine wp_seq (wp_if (et_test (ev_op (ev_modC (ev_var rfl) (by decide)) ev_int rv_eqI)) (fun e => ?_) fun e => wp_next ?_)
  · refine wp_ret (ev_op (ev_divC (ev_var rfl) (by decide) (small51 (by decide) (by decide))) ev_ten (rv_mod tenP_pos)) ?_
    show Dt.int _ = Dt.int (mixV c p)
    rw [mixV, if_pos (of_decide_eq_true e)]
  · refine wp_seq (wp_set (ev_op (ev_op (ev_op (ev_modC (ev_var rfl) (by decide)) ev_int rv_add) ev_int (rv_mulW (mulOk (small51 (by omega) (by omega)) (small51 (by decide) (by decide))))) (ev_var rfl) (rv_mod (by show 0 < p; omega))) ?_)
    refine wp_ret (ev_op (ev_op (ev_modC (ev_op (ev_var (d := .int (oddV c p)) rfl) (ev_var (d := .int (oddV c p)) rfl) (rv_mulW (mulOk (small51 (by omega) (by omega)) (small51 (by omega) (by omega))))) (by decide)) ev_int (rv_mulW (mulOk (small51 (by omega) (by omega)) (small51 (by decide) (by decide))))) (ev_var (d := .int (oddV c p)) rfl) rv_add) ?_
    show Dt.int _ = Dt.int (mixV c p)
    rw [mixV, if_neg (of_decide_eq_false e)]
theorem range_pre {n : Nat} {pre : List Nat} {i : Nat} {post : List Nat} (h : List.range n = pre ++ i :: post) : i = pre.length ∧ pre.length < n := by
  have e := congrArg List.length h
  rw [List.length_range, List.length_append, List.length_cons] at e
  refine ⟨?_, by omega⟩
  have e2 : (List.range n)[pre.length]? = some i := by
    rw [h, List.getElem?_append_right (Nat.le_refl _), Nat.sub_self]
    rfl
  rw [List.getElem?_range (by omega)] at e2
  exact (Option.some.inj e2).symm
theorem letters_len : letters.length ≤ 100000 := by decide +kernel
theorem letters_at : ∀ k : Fin 26, letters.cps.toList[k.val]? = some (97 + k.val) := by decide +kernel
theorem ev_ltr {F : Fx} {ρ : Ro} {te tl : TE} {n : Int} (hl : Ev F tl ρ (.str letters) ρ) (h : Ev F te ρ (.int n) ρ) : Ev F (tOp rIxS tl (tOp qMod te (tC (.int 26)))) ρ (.str (sgn (ltr n))) ρ := by
  have h1 := Int.emod_nonneg n (b := 26) (by decide)
  have h2 := Int.emod_lt_of_pos n (b := 26) (by decide)
  have z := letters_at ⟨(n % 26).toNat, by omega⟩
  exact ev_op hl (ev_is (ev_modC h (by decide)) (congrArg Dt.int (by omega : n % 26 = (((n % 26).toNat : Nat) : Int)))) (rv_ixS letters_len z)
theorem str_snoc (l : List Nat) (c : Nat) : ((⟨l.toArray⟩ : Str) ++ sgn c) = ⟨(l ++ [c]).toArray⟩ := by
  show (⟨l.toArray ++ #[c]⟩ : Str) = _
  simp
theorem str_app (l m : List Nat) : ((⟨l.toArray⟩ : Str) ++ (⟨m.toArray⟩ : Str)) = ⟨(l ++ m).toArray⟩ := by
  show (⟨l.toArray ++ m.toArray⟩ : Str) = _
  simp
theorem str_empty : ("" : Str) = ⟨([] : List Nat).toArray⟩ := by decide +kernel
theorem str_len (l : List Nat) : (⟨l.toArray⟩ : Str).length = l.length := by
  show l.toArray.size = _
  simp
def nameTo (n : Int) (k : Nat) : List Nat := (List.range k).map fun i => ltr (stD (n / 8) 26 i)
theorem nameTo_snoc (n : Int) (k : Nat) : nameTo n (k + 1) = nameTo n k ++ [ltr (stD (n / 8) 26 k)] := by
  unfold nameTo
  rw [List.range_succ, List.map_append]
  rfl
theorem nameTo_len (n : Int) (k : Nat) : (nameTo n k).length = k := by
  unfold nameTo
  rw [List.length_map, List.length_range]
theorem wp_law_name (F : Fx) (ds : List Dt) (d : Dt) (r : R_law_name ds d) : Wp F (t_law_name F.K F.cl) (ro0 ["_law_cell", "_law_letters", "_law_number", "_law_name_here", "_law_k"] ds) (endP d) := by
  obtain ⟨n, _, rfl, rfl⟩ := r
  have h1 := Int.emod_nonneg n (b := 8) (by decide)
  have h2 := Int.emod_lt_of_pos n (b := 8) (by decide)
  refine wp_seq (wp_set (ev_str (x := letters)) ?_)
  refine wp_seq (wp_set (ev_divC (ev_var rfl) (by decide) (small51 (by decide) (by decide))) ?_)
  refine wp_seq (wp_set ev_str ?_)
  rw [str_empty]
  refine wp_seq (wp_forL (List.range (1 + n % 8).toNat) natD [4] (fun pre => [.im (.int n), .im (.str letters), .im (.int (stD (n / 8) 26 pre.length)), .im (.str ⟨(nameTo n pre.length).toArray⟩), .no]) (fun _ => True)
    (ei_rng (ea_one (ev_is (ev_op ev_int (ev_modC (ev_var rfl) (by decide)) rv_add) (congrArg Dt.int (by omega : 1 + n % 8 = (((1 + n % 8).toNat : Nat) : Int))))) (by omega)) rfl trivial (fun pre i post eq _ => ⟨[4], _, tg_name, ?_⟩) fun _ => ?_)
  · obtain ⟨_, hlt⟩ := range_pre eq
    refine wp_seq (wp_set (ev_op (ev_var rfl) (ev_ltr (ev_var rfl) (ev_var rfl)) (rv_addS (by
      rw [str_len, nameTo_len]
      show _ + 1 ≤ _
      omega))) ?_)
    refine wp_set (ev_divC (ev_var rfl) (by decide) (small51 (by decide) (by decide))) ⟨trivial, ?_⟩
    rw [str_snoc, List.length_append]
    show _ = [_, _, _, Sl.im (Dt.str ⟨(nameTo n (pre.length + 1)).toArray⟩), _]
    rw [nameTo_snoc]
    rfl
  · refine wp_ret (ev_var rfl) ?_
    show Dt.str _ = Dt.str (nameV n)
    rw [List.length_range]
    rfl
end Md
namespace Md
open PySem PySem.Spec PyProof.Rows L2 PySem.W
theorem mix_nonneg (c : Int) {p : Int} (h : PrimeOk p) : 0 ≤ mixV c p := by
  unfold mixV
  obtain ⟨o1, o2⟩ := odd_bound (c := c) h
  split
  · exact Int.emod_nonneg _ (by have := tenP_pos; omega)
  · have q1 := Int.emod_nonneg (oddV c p * oddV c p) (b := 2147483579) (by decide)
    omega
theorem nameCs_eq (n : Int) : nameCs n = nameTo n (1 + n % 8).toNat := rfl
theorem nameCs_len (n : Int) : (nameCs n).length = (1 + n % 8).toNat := by rw [nameCs_eq, nameTo_len]
theorem nameCs_lim (n : Int) : 1 ≤ (nameCs n).length ∧ (nameCs n).length ≤ 8 := by
  have h1 := Int.emod_nonneg n (b := 8) (by decide)
  have h2 := Int.emod_lt_of_pos n (b := 8) (by decide)
  rw [nameCs_len]
  omega
theorem ltr_lim (n : Int) : 97 ≤ ltr n ∧ ltr n ≤ 122 := by
  have h1 := Int.emod_nonneg n (b := 26) (by decide)
  have h2 := Int.emod_lt_of_pos n (b := 26) (by decide)
  unfold ltr
  omega
theorem nameCs_ok (n : Int) : ∀ c ∈ nameCs n, 97 ≤ c ∧ c ≤ 122 := fun c hc => by
  obtain ⟨i, _, rfl⟩ := List.mem_map.mp hc
  exact ltr_lim _
theorem poolK_lt (c : Int) : poolK c < (nameCs (mixV c 2147483587)).length := by
  have h := nameCs_lim (mixV c 2147483587)
  unfold poolK
  have h1 := Int.emod_nonneg (poolN c) (b := ((nameCs (mixV c 2147483587)).length : Nat)) (by omega)
  have h2 := Int.emod_lt_of_pos (poolN c) (b := ((nameCs (mixV c 2147483587)).length : Nat)) (by omega)
  omega
theorem cut_str_take (l : List Nat) (k : Nat) : cutS ⟨l.toArray⟩ none (some (k : Int)) = ⟨(l.take k).toArray⟩ := by
  unfold cutS
  rw [HT.sIx_none, HT.sIx_nat, List.drop_zero, Nat.sub_zero, str_len]
  show (⟨(l.take (min k l.length)).toArray⟩ : Str) = _
  by_cases h : k ≤ l.length
  · rw [Nat.min_eq_left h]
  · rw [Nat.min_eq_right (by omega), List.take_length, List.take_of_length_le (by omega)]
theorem cut_str_drop (l : List Nat) (k : Nat) : cutS ⟨l.toArray⟩ (some (k : Int)) none = ⟨(l.drop k).toArray⟩ := by
  unfold cutS
  rw [HT.sIx_nat, HT.sIx_none, str_len]
  show (⟨((l.drop (min k l.length)).take (l.length - min k l.length)).toArray⟩ : Str) = _
  by_cases h : k ≤ l.length
  · rw [Nat.min_eq_left h, List.take_of_length_le (by rw [List.length_drop]; omega)]
  · rw [Nat.min_eq_right (by omega), List.drop_length, List.drop_eq_nil_of_le (by omega), List.take_nil]
theorem great_base (n : Int) : (Builtin.Int.intBits (n % 10 ^ 30 * 48271 + 11) : Int) * 4 ≤ 2 ^ 27 := by
  have h1 := Int.emod_nonneg n (b := 10 ^ 30) (by decide)
  have h2 := Int.emod_lt_of_pos n (b := 10 ^ 30) (by decide)
  have e : (10 : Int) ^ 30 = 1000000000000000000000000000000 := by decide
  rw [e] at h1 h2
  have h3 := bits_lt (x := n % 10 ^ 30 * 48271 + 11) (small51 (by rw [e]; omega) (by rw [e]; omega))
  omega
theorem wp_law_pool (F : Fx) (ds : List Dt) (d : Dt) (r : R_law_pool ds d) : Wp F (t_law_pool F.K F.cl) (ro0 ["_law_cell", "_law_number", "_law_letters", "_law_name_here", "_law_at", "_law_turned_here", "_law_other", "_law_great"] ds) (endP d) := by
  obtain ⟨c, _, rfl, rfl⟩ := r
  have hp : PrimeOk 2147483587 := ⟨by decide, by decide⟩
  have hN := nameCs_lim (mixV c 2147483587)
  have hk := poolK_lt c
  have hko := nameCs_ok (mixV c 2147483587)
  have hget : (nameCs (mixV c 2147483587))[poolK c]? = some ((nameCs (mixV c 2147483587)).getD (poolK c) 97) := by
    rw [List.getD_eq_getElem?_getD, List.getElem?_eq_getElem hk]
    rfl
  have hlet := hko _ (List.mem_of_getElem? hget)
  have e830 : (8 : Int) * 26 ^ 8 = 1670616516608 := by decide
  have e30 : (10 : Int) ^ 30 = 1000000000000000000000000000000 := by decide
  have p268 : ∀ {ρ : Ro}, Ev F (tOp qPow (tC (.int 26)) (tC (.int 8))) ρ (.int (26 ^ 8)) ρ := ev_pow (by decide) (by decide +kernel) rfl
  have p1030 : ∀ {ρ : Ro}, Ev F (tOp qPow (tC (.int 10)) (tC (.int 30))) ρ (.int (10 ^ 30)) ρ := ev_pow (by decide) (by decide +kernel) rfl
  refine wp_seq (wp_set (ev_call (ea_two (ev_var rfl) ev_int) ⟨(c, 2147483587), hp, rfl, rfl⟩) ?_)
  refine wp_seq (wp_set (ev_str (x := letters)) ?_)
  refine wp_seq (wp_set (ev_call (ea_one (ev_var rfl)) ⟨mixV c 2147483587, trivial, rfl, rfl⟩) ?_)
  refine wp_seq (wp_set (ev_is (ev_op (ev_var (d := .int (mixV c 2147483587)) rfl) (ev_op ev_int p268 (rv_mulW (mulOk (small51 (by decide) (by decide)) (small51 (by decide) (by decide))))) (rv_div (divOk (by decide) (small51 (by decide) (by decide))))) (show _ = Dt.int (poolN c) from rfl)) ?_)
  have hlen : Ev F (tCB rLenZ (tCons (tVar 3) tNil)) [.im (.int c), .im (.int (poolN c)), .im (.str letters), .im (.str (nameV (mixV c 2147483587))), .no, .no, .no, .no] (.int ((nameCs (mixV c 2147483587)).length : Nat)) [.im (.int c), .im (.int (poolN c)), .im (.str letters), .im (.str (nameV (mixV c 2147483587))), .no, .no, .no, .no] := by
    have z := ev_CB (F := F) (ea_one (ev_var (k := 3) (d := .str (nameV (mixV c 2147483587))) (ρ := [.im (.int c), .im (.int (poolN c)), .im (.str letters), .im (.str (nameV (mixV c 2147483587))), .no, .no, .no, .no]) rfl)) (rc_lenZ (by
      rw [nameV, str_len]
      omega))
    rw [show (nameV (mixV c 2147483587)).length = (nameCs (mixV c 2147483587)).length from str_len _] at z
    exact z
  have n1 := Int.emod_nonneg (poolN c) (b := ((nameCs (mixV c 2147483587)).length : Nat)) (by omega)
  refine wp_seq (wp_set (ev_is (ev_op (ev_var (d := .int (poolN c)) rfl) hlen (rv_mod (by omega))) (show _ = Dt.int ((poolK c : Nat) : Int) from congrArg Dt.int (by unfold poolK; omega))) ?_)
  have hsgn : Ev F (tOp rIxS (tVar 3) (tVar 4)) [.im (.int c), .im (.int (poolN c)), .im (.str letters), .im (.str (nameV (mixV c 2147483587))), .im (.int ((poolK c : Nat) : Int)), .no, .no, .no] (.str (sgn ((nameCs (mixV c 2147483587)).getD (poolK c) 97))) [.im (.int c), .im (.int (poolN c)), .im (.str letters), .im (.str (nameV (mixV c 2147483587))), .im (.int ((poolK c : Nat) : Int)), .no, .no, .no] :=
    ev_op (ev_var rfl) (ev_var rfl) (rv_ixS (by
      rw [nameV, str_len]
      omega) hget)
  refine wp_seq (wp_set (ev_is (ev_op (ev_op (ev_indexS hlet (ev_var rfl) hsgn) ev_int rv_add) (ev_modC (ev_divC (ev_var (d := .int (poolN c)) rfl) (by decide) (small51 (by decide) (by decide))) (by decide)) rv_add) (show _ = Dt.int (turnK c) from rfl)) ?_)
  have hother : Ev F (tOp qAddS (tOp qAddS (tSl rSlS (tVar 3) tNoPart (tPart (tVar 4))) (tOp rIxS (tVar 2) (tOp qMod (tVar 5) (tC (.int 26))))) (tSl rSlS (tVar 3) (tPart (tOp qAdd (tVar 4) (tC (.int 1)))) tNoPart))
      [.im (.int c), .im (.int (poolN c)), .im (.str letters), .im (.str (nameV (mixV c 2147483587))), .im (.int ((poolK c : Nat) : Int)), .im (.int (turnK c)), .no, .no] (.str (otherV c))
      [.im (.int c), .im (.int (poolN c)), .im (.str letters), .im (.str (nameV (mixV c 2147483587))), .im (.int ((poolK c : Nat) : Int)), .im (.int (turnK c)), .no, .no] := by
    have hl : (nameV (mixV c 2147483587)).length ≤ 100000 := by
      rw [nameV, str_len]
      omega
    have a1 := ev_sl (F := F) (te := tVar 3) (ev_var (k := 3) (d := .str (nameV (mixV c 2147483587))) (ρ := [.im (.int c), .im (.int (poolN c)), .im (.str letters), .im (.str (nameV (mixV c 2147483587))), .im (.int ((poolK c : Nat) : Int)), .im (.int (turnK c)), .no, .no]) rfl) eo_none (eo_some (ev_var (k := 4) (d := .int ((poolK c : Nat) : Int)) rfl)) (rs_str hl)
    have a2 := ev_sl (F := F) (te := tVar 3) (ev_var (k := 3) (d := .str (nameV (mixV c 2147483587))) (ρ := [.im (.int c), .im (.int (poolN c)), .im (.str letters), .im (.str (nameV (mixV c 2147483587))), .im (.int ((poolK c : Nat) : Int)), .im (.int (turnK c)), .no, .no]) rfl) (eo_some (i := ((poolK c + 1 : Nat) : Int)) (ev_is (ev_op (ev_var (k := 4) (d := .int ((poolK c : Nat) : Int)) rfl) (ev_int (i := 1)) rv_add) (congrArg Dt.int (by omega)))) eo_none (rs_str hl)
    rw [nameV, cut_str_take] at a1
    rw [nameV, cut_str_drop] at a2
    have b1 := ev_op a1 (ev_ltr (te := tVar 5) (tl := tVar 2) (n := turnK c) (ev_var (d := .str letters) rfl) (ev_var rfl)) (rv_addS (by
      rw [str_len, List.length_take]
      show _ + 1 ≤ _
      omega))
    rw [str_snoc] at b1
    have b2 := ev_op b1 a2 (rv_addS (by
      rw [str_len, str_len, List.length_append, List.length_take, List.length_drop]
      show _ + 1 + _ ≤ _
      omega))
    rw [str_app] at b2
    exact b2
  refine wp_seq (wp_set hother ?_)
  refine wp_seq (wp_set (ev_is (ev_divC (ev_var (d := .int (poolN c)) rfl) (by decide) (small51 (by decide) (by decide))) (show _ = Dt.int (greatN c) from rfl)) ?_)
  have g1 := Int.emod_nonneg (greatN c) (b := 10 ^ 30) (by decide)
  have g2 := Int.emod_lt_of_pos (greatN c) (b := 10 ^ 30) (by decide)
  refine wp_seq (wp_set (ev_op (ev_op (ev_is (ev_op (ev_op (ev_op (ev_op (ev_var (d := .int (greatN c)) rfl) p1030 (rv_mod (by decide))) ev_int (rv_mulW (mulOk (small51 (by rw [e30] at g1 g2 ⊢; omega) (by rw [e30] at g1 g2 ⊢; omega)) (small51 (by decide) (by decide))))) ev_int rv_add) ev_int (rv_pow (by decide) (great_base _))) (show _ = Dt.int ((greatN c % 10 ^ 30 * 48271 + 11) ^ 4) from rfl)) (ev_op p1030 ev_int rv_sub) (rv_mod (by decide))) ev_int rv_add) ?_)
  have fin : Wp F (tRet (tLst (tCons (tOp qMod (tOp qDiv (tVar 1) (tC (.int 64))) (tC (.int 5))) (tCons (tVar 7) (tCons (tVar 3) (tCons (tOp qSub (tC (.int 0)) (tVar 7)) (tCons (tVar 6) (tCons (tOp qAdd (tOp qMod (tOp qDiv (tVar 1) (tC (.int 320))) (tC (.int 5))) (tC (.int 7))) (tCons (tOp qAdd (tVar 7) (tC (.int 1))) tNil)))))))))
      [.im (.int c), .im (.int (greatN c)), .im (.str letters), .im (.str (nameV (mixV c 2147483587))), .im (.int ((poolK c : Nat) : Int)), .im (.int (turnK c)), .im (.str (otherV c)), .im (.int (greatV c))] (endP (cellsL (poolV c))) := by
    exact wp_ret (ev_lst (ea_cons (ev_modC (ev_divC (ev_var rfl) (by decide) (small51 (by decide) (by decide))) (by decide)) (ea_cons (ev_var rfl) (ea_cons (ev_var rfl) (ea_cons (ev_op ev_int (ev_var rfl) rv_sub) (ea_cons (ev_var rfl) (ea_two (ev_op (ev_modC (ev_divC (ev_var rfl) (by decide) (small51 (by decide) (by decide))) (by decide)) ev_int rv_add) (ev_op (ev_var rfl) ev_int rv_add))))))) (sm rfl)) rfl
  refine wp_seq (wp_if (et_test (ev_op (ev_modC (ev_var (d := .int (greatN c)) rfl) (by decide)) ev_int rv_eqI)) (fun e => ?_) fun e => wp_next ?_)
  · refine wp_set (ev_is (ev_op (ev_op (ev_divC (ev_var (d := .int (greatN c)) rfl) (by decide) (small51 (by decide) (by decide))) (ev_op p1030 ev_int rv_sub) (rv_mod (by decide))) ev_int rv_add) (show _ = Dt.int (greatV c) from congrArg Dt.int (by rw [greatV, if_pos (of_decide_eq_true e)]))) ?_
    exact fin
  · have e2 : greatV c = (greatN c % 10 ^ 30 * 48271 + 11) ^ 4 % (10 ^ 30 - 3) + 1 := by rw [greatV, if_neg (of_decide_eq_false e)]
    rw [e2] at fin
    exact fin
end Md
namespace Md
open PySem PySem.Spec PyProof.Rows L2 PySem.W
theorem pr1 : PrimeOk 2147483629 := ⟨by decide, by decide⟩
theorem pr2 : PrimeOk 2147483563 := ⟨by decide, by decide⟩
theorem pr3 : PrimeOk 2147483543 := ⟨by decide, by decide⟩
theorem nat_of {i : Int} (h : 0 ≤ i) : i = ((i.toNat : Nat) : Int) := by omega
theorem app_len {α : Type} {l pre post : List α} {x : α} (h : l = pre ++ x :: post) : pre.length < l.length ∧ x ∈ l := by
  rw [h]
  refine ⟨?_, List.mem_append.mpr (.inr List.mem_cons_self)⟩
  rw [List.length_append, List.length_cons]
  omega
theorem tabAt_d (n : Int) (i : Nat) : tabD (tabAt n i) = .tup [.int (1 + stD n 20 i % 4), .int (stD n 20 i / 4 % (1 + stD n 20 i % 4 + 1))] := by
  have h1 := Int.emod_nonneg (stD n 20 i) (b := 4) (by decide)
  have h2 := Int.emod_nonneg (stD n 20 i / 4) (b := 1 + stD n 20 i % 4 + 1) (by omega)
  unfold tabAt tabD
  have e1 : (((1 + stD n 20 i % 4).toNat : Nat) : Int) = 1 + stD n 20 i % 4 := by omega
  have e2 : (((stD n 20 i / 4 % (1 + stD n 20 i % 4 + 1)).toNat : Nat) : Int) = stD n 20 i / 4 % (1 + stD n 20 i % 4 + 1) := by omega
  show Dt.tup [.int _, .int _] = _
  rw [e1, e2]
theorem wp_law_tables (F : Fx) (ds : List Dt) (d : Dt) (r : R_law_tables ds d) : Wp F (t_law_tables F.K F.cl) (ro0 ["_law_cell", "_law_most", "_law_number", "_law_many", "_law_tables_here", "_law_k", "_law_wide"] ds) (endP d) := by
  obtain ⟨c, _, rfl, rfl⟩ := r
  have h1 := Int.emod_nonneg (mixV c 2147483629) (b := 3) (by decide)
  have h2 := Int.emod_lt_of_pos (mixV c 2147483629) (b := 3) (by decide)
  refine wp_seq (wp_set (ev_call (ea_two (ev_var rfl) ev_int) ⟨(c, 2147483629), pr1, rfl, rfl⟩) ?_)
  refine wp_seq (wp_set (ev_op ev_int (ev_op (ev_var (d := .int (mixV c 2147483629)) rfl) (ev_var (d := .int 3) rfl) (rv_mod (by decide))) rv_add) ?_)
  refine wp_seq (wp_set (ev_op (ev_var (d := .int (mixV c 2147483629)) rfl) (ev_var (d := .int 3) rfl) (rv_div (divOk (by decide) (small51 (by decide) (by decide))))) ?_)
  refine wp_seq (wp_newL ea_nil (sm rfl) ?_)
  refine wp_seq (wp_forL (List.range (1 + mixV c 2147483629 % 3).toNat) natD [5, 6] (fun pre => [.im (.int c), .im (.int 3), .im (.int (stD (mixV c 2147483629 / 3) 20 pre.length)), .im (.int (1 + mixV c 2147483629 % 3)), .ow (.ls ((List.range pre.length).map fun i => tabD (tabAt (mixV c 2147483629 / 3) i))), .no, .no]) (fun _ => True)
    (ei_rng (ea_one (ev_is (ev_var rfl) (congrArg Dt.int (nat_of (by omega))))) (by omega)) rfl trivial (fun pre i post eq _ => ⟨[5], _, tg_name, ?_⟩) fun _ => ?_)
  · obtain ⟨_, hlt⟩ := range_pre eq
    have w1 := Int.emod_nonneg (stD (mixV c 2147483629 / 3) 20 pre.length) (b := 4) (by decide)
    refine wp_seq (wp_set (ev_op ev_int (ev_modC (ev_var rfl) (by decide)) rv_add) ?_)
    refine wp_seq (wp_app (ev_tup (ea_two (ev_var rfl) (ev_op (ev_divC (ev_var rfl) (by decide) (small51 (by decide) (by decide))) (ev_op (ev_var rfl) ev_int rv_add) (rv_mod (by omega)))) (sm rfl)) rfl rfl (by rw [List.length_map, List.length_range]; omega) ?_)
    refine wp_set (ev_divC (ev_var rfl) (by decide) (small51 (by decide) (by decide))) ⟨trivial, ?_⟩
    rw [← tabAt_d, List.length_append]
    show _ = [_, _, _, _, Sl.ow (.ls ((List.range (pre.length + 1)).map fun i => tabD (tabAt (mixV c 2147483629 / 3) i))), _, _]
    rw [List.range_succ, List.map_append]
    rfl
  · refine wp_ret (ev_CB (ea_one (ev_freeze rfl)) (rc_tuple (.inl rfl))) ?_
    rw [List.length_range]
    show Dt.tup _ = Dt.tup ((tablesG c).map tabD)
    unfold tablesG
    rw [List.map_map]
    rfl
theorem pool_get {pool : List Cell} {k : Int} (h : PoolOk pool) (h0 : 0 ≤ k) (h7 : k < 7) : (pool.map Cell.d)[k.toNat]? = some (poolAt pool k).d := by
  have hl := h.1
  rw [List.getElem?_map, poolAt, List.getD_eq_getElem?_getD, List.getElem?_eq_getElem (by omega)]
  rfl
theorem poolAt_ok {pool : List Cell} {k : Int} (h : PoolOk pool) (h0 : 0 ≤ k) (h7 : k < 7) : (poolAt pool k).Ok := by
  have hl := h.1
  have hlt : k.toNat < pool.length := by omega
  rw [poolAt, List.getD_eq_getElem?_getD, List.getElem?_eq_getElem hlt]
  exact h.2 _ (List.getElem_mem hlt)
theorem modN {x : Int} {n : Nat} (h : 1 ≤ n) : (x % ((n : Nat) : Int)).toNat < n ∧ x % ((n : Nat) : Int) = (((x % ((n : Nat) : Int)).toNat : Nat) : Int) := by
  have h1 := Int.emod_nonneg x (b := ((n : Nat) : Int)) (by omega)
  have h2 := Int.emod_lt_of_pos x (b := ((n : Nat) : Int)) (by omega)
  omega
theorem tab_at {tabs : List Tab} (h : TabsOk tabs) {t : Nat} (ht : t < tabs.length) : tabs[t]? = some (tabs.getD t (0, 0)) ∧ TabOk (tabs.getD t (0, 0)) := by
  have e : tabs.getD t (0, 0) = tabs[t] := by
    rw [List.getD_eq_getElem?_getD, List.getElem?_eq_getElem ht]
    rfl
  rw [e, List.getElem?_eq_getElem ht]
  exact ⟨rfl, h.2.2 _ (List.getElem_mem ht)⟩
def cellsG (pool : List Cell) (wide n : Int) (k : Nat) : List Cell := (List.range k).map fun i => poolAt pool (stD n wide i % wide)
theorem cellsG_snoc (pool : List Cell) (wide n : Int) (k : Nat) : cellsG pool wide n (k + 1) = cellsG pool wide n k ++ [poolAt pool (stD n wide k % wide)] := by
  unfold cellsG
  rw [List.range_succ, List.map_append]
  rfl
theorem wide_mod {w x : Int} (h : WideOk w) : 0 ≤ x % w ∧ x % w < 7 := by
  obtain ⟨h1, h2⟩ := h
  have a1 := Int.emod_nonneg x (b := w) (by omega)
  have a2 := Int.emod_lt_of_pos x (b := w) (by omega)
  omega
theorem wp_law_row (F : Fx) (ds : List Dt) (d : Dt) (r : R_law_row ds d) : Wp F (t_law_row F.K F.cl) (ro0 ["_law_cell", "_law_tables_here", "_law_pool_here", "_law_wide", "_law_number", "_law_t", "_law_cells", "_law_k"] ds) (endP d) := by
  obtain ⟨⟨tabs, pool, w, c⟩, ⟨hT, hP, hW⟩, rfl, rfl⟩ := r
  have hT : TabsOk tabs := hT
  have hP : PoolOk pool := hP
  have hW : WideOk w := hW
  obtain ⟨w1, w2⟩ := hW
  obtain ⟨t1, t4, _⟩ := id hT
  obtain ⟨m1, m2⟩ := modN (x := mixV c 2147483563) t1
  obtain ⟨g1, g2, g3, _⟩ := tab_at hT m1
  refine wp_seq (wp_set (ev_call (ea_two (ev_var rfl) ev_int) ⟨(c, 2147483563), pr2, rfl, rfl⟩) ?_)
  refine wp_seq (wp_set (ev_is (ev_op (ev_var (d := .int (mixV c 2147483563)) rfl) (ev_lenX (l := tabs) (ev_var rfl)) (rv_mod (by omega))) (congrArg Dt.int m2)) ?_)
  refine wp_seq (wp_set (ev_op (ev_var (d := .int (mixV c 2147483563)) rfl) (ev_lenX (l := tabs) (ev_var rfl)) (rv_div (divOk (by omega) (small51 (by omega) (by omega))))) ?_)
  refine wp_seq (wp_newL ea_nil (sm rfl) ?_)
  let t := (mixV c 2147483563 % ((tabs.length : Nat) : Int)).toNat
  have g3' : (tabs.getD t (0, 0)).1 ≤ 4 := g3
  refine wp_seq (wp_forL (List.range (tabs.getD t (0, 0)).1) natD [7] (fun pre => [.im (.int c), .im (tabsD tabs), .im (cellsL pool), .im (.int w), .im (.int (stD (mixV c 2147483563 / ((tabs.length : Nat) : Int)) w pre.length)), .im (natD t), .ow (.ls ((cellsG pool w (mixV c 2147483563 / ((tabs.length : Nat) : Int)) pre.length).map Cell.d)), .no]) (fun _ => True)
    (ei_rng (ea_one (ev_at 0 (ev_ixv (ev_var rfl) (ev_var rfl) (tabs_get g1)) rfl)) (by show (tabs.getD t (0, 0)).1 < 100000; omega)) rfl trivial (fun pre i post eq _ => ⟨[7], _, tg_name, ?_⟩) fun _ => ?_)
  · obtain ⟨_, hlt⟩ := range_pre eq
    obtain ⟨x1, x2⟩ := wide_mod (x := stD (mixV c 2147483563 / ((tabs.length : Nat) : Int)) w pre.length) ⟨w1, w2⟩
    refine wp_seq (wp_app (ev_ixl (ev_var rfl) (ev_is (ev_op (ev_var rfl) (ev_var rfl) (rv_mod (by omega))) (congrArg Dt.int (nat_of x1))) (pool_get hP x1 x2)) rfl rfl (by unfold cellsG; rw [List.length_map, List.length_map, List.length_range]; omega) ?_)
    refine wp_set (ev_op (ev_var rfl) (ev_var rfl) (rv_div (divOk (by omega) (small51 (by omega) (by omega))))) ⟨trivial, ?_⟩
    rw [List.length_append]
    show _ = [_, _, _, _, _, _, Sl.ow (.ls ((cellsG pool w (mixV c 2147483563 / ((tabs.length : Nat) : Int)) (pre.length + 1)).map Cell.d)), _]
    rw [cellsG_snoc, List.map_append]
    rfl
  · refine wp_ret (ev_tup (ea_two (ev_var rfl) (ev_CB (ea_one (ev_freeze rfl)) (rc_tuple (.inl rfl)))) (sm rfl)) ?_
    rw [List.length_range]
    rfl
theorem rowG_ok {tabs : List Tab} {pool : List Cell} {w c : Int} (hT : TabsOk tabs) (hP : PoolOk pool) (hW : WideOk w) : (rowG tabs pool w c).Ok tabs := by
  obtain ⟨m1, m2⟩ := modN (x := mixV c 2147483563) hT.1
  obtain ⟨g1, g2⟩ := tab_at hT m1
  refine ⟨_, g1, ?_, fun x hx => ?_⟩
  · show ((List.range _).map _).length = _
    rw [List.length_map, List.length_range]
  · obtain ⟨i, _, rfl⟩ := List.mem_map.mp hx
    obtain ⟨x1, x2⟩ := wide_mod (x := stD (mixV c 2147483563 / ((tabs.length : Nat) : Int)) w i) hW
    exact poolAt_ok hP x1 x2
theorem rowsG_snoc (tabs : List Tab) (pool : List Cell) (w : Int) (pre : List Int) (c : Int) : rowsG tabs pool w (pre ++ [c]) = putS (rowsG tabs pool w pre) (rowG tabs pool w c) := by
  unfold rowsG
  rw [List.foldl_append]
  rfl
theorem rowsG_in {tabs : List Tab} {pool : List Cell} {w : Int} {cs : List Int} {r : Row} (h : r ∈ rowsG tabs pool w cs) : ∃ c ∈ cs, rowG tabs pool w c = r := ((foldPut_mem (rowG tabs pool w) r cs []).mp h).resolve_left fun z => nomatch z
theorem wp_law_rows (F : Fx) (ds : List Dt) (d : Dt) (r : R_law_rows ds d) : Wp F (t_law_rows F.K F.cl) (ro0 ["_law_cells", "_law_tables_here", "_law_pool_here", "_law_wide", "_law_rows_here", "_law_cell", "_law_row_here"] ds) (endP d) := by
  obtain ⟨⟨tabs, pool, w, cs⟩, ⟨hT, hP, hW, hl⟩, rfl, rfl⟩ := r
  have hT : TabsOk tabs := hT
  have hP : PoolOk pool := hP
  have hW : WideOk w := hW
  have hl : cs.length < 1000 := hl
  have hn : ∀ c, Nice 2 (rowG tabs pool w c).d := fun c => nice_row (rowG_ok hT hP hW).cells
  refine wp_seq (wp_newL ea_nil (sm rfl) ?_)
  refine wp_seq (wp_forL cs Dt.int [5, 6] (fun pre => [.im (intsL cs), .im (tabsD tabs), .im (cellsL pool), .im (.int w), .ow (.ls ((rowsG tabs pool w pre).map Row.d)), .no, .no]) (fun _ => True) (ei_list (ev_var rfl)) rfl trivial (fun pre c post eq _ => ⟨[5], _, tg_name, ?_⟩) fun _ => ?_)
  · obtain ⟨hpl, _⟩ := app_len eq
    have hrl : (rowsG tabs pool w pre).length ≤ 0 + pre.length := foldPut_len (rowG tabs pool w) pre []
    refine wp_seq (wp_set (ev_call (ea_cons (ev_var rfl) (ea_cons (ev_var rfl) (ea_two (ev_var rfl) (ev_var rfl)))) ⟨(tabs, pool, w, c), ⟨hT, hP, hW⟩, rfl, rfl⟩) ?_)
    refine wp_appIf (b := !decide (rowG tabs pool w c ∈ rowsG tabs pool w pre)) (et_test (ev_notInOwn (n := 2) (ev_var rfl) rfl (hn c) (fun x hx => by
      obtain ⟨r, hr, rfl⟩ := List.mem_map.mp hx
      obtain ⟨c', _, rfl⟩ := rowsG_in hr
      exact hn c') (by decide) (by
      show (!decide (rowG tabs pool w c ∈ rowsG tabs pool w pre)) = true ↔ ¬ (rowG tabs pool w c).d ∈ (rowsG tabs pool w pre).map Row.d
      rw [mem_map_inj Row.d_inj, Bool.not_eq_true', decide_eq_false_iff_not]))) (ev_var rfl) rfl (by rw [List.length_map]; omega) ⟨trivial, ?_⟩
    rw [rowsG_snoc]
    unfold putS
    by_cases h : rowG tabs pool w c ∈ rowsG tabs pool w pre
    · rw [if_pos h, decide_eq_true h]
      show [_, _, _, _, Sl.ow (.ls (_ ++ [])), _, _] = _
      rw [List.append_nil]
    · rw [if_neg h, decide_eq_false h, List.map_append]
      rfl
  · exact wp_ret (ev_CB (ea_one (ev_freeze rfl)) (rc_tuple (.inl rfl))) rfl
theorem one_pm {ρ : Ro} {s : Int} (h : ∀ (k : Nat) (s : Int), ρ[k]? ≠ some (.pm s)) : ∀ (j : Nat) (s' : Int), (Sl.pm s :: ρ)[j]? = some (.pm s') → j = 0
  | 0, _, _ => rfl
  | j + 1, s', e => absurd e (h j s')
theorem nopm_nil : ∀ (k : Nat) (s : Int), ([] : Ro)[k]? ≠ some (.pm s) := fun k s z => by simp at z
theorem nopm_im {ρ : Ro} {d : Dt} (h : ∀ (k : Nat) (s : Int), ρ[k]? ≠ some (.pm s)) : ∀ (k : Nat) (s : Int), (Sl.im d :: ρ)[k]? ≠ some (.pm s)
  | 0, _, z => by cases z
  | k + 1, s, z => h k s z
theorem nopm_no {ρ : Ro} (h : ∀ (k : Nat) (s : Int), ρ[k]? ≠ some (.pm s)) : ∀ (k : Nat) (s : Int), (Sl.no :: ρ)[k]? ≠ some (.pm s)
  | 0, _, z => by cases z
  | k + 1, s, z => h k s z
theorem nopm_ow {ρ : Ro} {m : Mo} (h : ∀ (k : Nat) (s : Int), ρ[k]? ≠ some (.pm s)) : ∀ (k : Nat) (s : Int), (Sl.ow m :: ρ)[k]? ≠ some (.pm s)
  | 0, _, z => by cases z
  | k + 1, s, z => h k s z
theorem wp_law_take (F : Fx) (s : Int) (ds : List Dt) (d : Dt) (s' : Int) (r : R_law_take s ds d s') : Wp F (t_law_take F.K F.cl) (ro1 ["_law_state", "_law_size", "_law_found"] s ds) (endM d s') := by
  obtain ⟨⟨s, n⟩, ⟨h1, h2⟩, rfl, rfl, rfl, rfl⟩ := r
  have h1 : 0 < n := h1
  have h2 : n < 1000 := h2
  refine wp_seq (wp_set (ev_op (ev_ixPm rfl) (ev_var (d := .int n) rfl) (rv_mod h1)) ?_)
  refine wp_seq (wp_setPm (ev_op (ev_ixPm rfl) (ev_var (d := .int n) rfl) (rv_div (divOk h1 (small51 (by omega) (by omega))))) rfl (one_pm (nopm_im (nopm_im nopm_nil))) ?_)
  exact wp_ret (ev_var rfl) ⟨rfl, rfl⟩
end Md
namespace Md
open PySem PySem.Spec PyProof.Rows L2 PySem.W
theorem width_ok {tabs : List Tab} (hT : TabsOk tabs) {t : Nat} (ht : t < tabs.length) : 0 < widthAt tabs t ∧ widthAt tabs t ≤ 4 := by
  obtain ⟨g1, g2, g3, _⟩ := tab_at hT ht
  unfold widthAt
  omega
theorem ev_width {F : Fx} {ρ : Ro} {tt te : TE} {tabs : List Tab} {t : Nat} (hT : TabsOk tabs) (ht : t < tabs.length) (h : Ev F tt ρ (tabsD tabs) ρ) (h2 : Ev F te ρ (natD t) ρ) : Ev F (tOp (rIxT F.K) (tOp (rIxT F.K) tt te) (tC (.int 0))) ρ (.int (widthAt tabs t)) ρ :=
  ev_at 0 (d := natD (tabs.getD t (0, 0)).1) (ev_ixv h h2 (tabs_get (tab_at hT ht).1)) rfl
theorem there_at {tabs : List Tab} {there : List Nat} (h : ThereOk tabs there) {k : Nat} (hk : k < there.length) : there[k]? = some (there.getD k 0) ∧ there.getD k 0 < tabs.length := by
  have e : there.getD k 0 = there[k] := by
    rw [List.getD_eq_getElem?_getD, List.getElem?_eq_getElem hk]
    rfl
  rw [e, List.getElem?_eq_getElem hk]
  exact ⟨rfl, h.2.2 _ (List.getElem_mem hk)⟩
theorem sz3 : (0 : Int) < 3 ∧ (3 : Int) < 1000 := ⟨by decide, by decide⟩
theorem sz4 : (0 : Int) < 4 ∧ (4 : Int) < 1000 := ⟨by decide, by decide⟩
theorem sz5 : (0 : Int) < 5 ∧ (5 : Int) < 1000 := ⟨by decide, by decide⟩
theorem sz6 : (0 : Int) < 6 ∧ (6 : Int) < 1000 := ⟨by decide, by decide⟩
theorem sz7 : (0 : Int) < 7 ∧ (7 : Int) < 1000 := ⟨by decide, by decide⟩
theorem mod7 (x : Int) : 0 ≤ x % 7 ∧ x % 7 < 7 := by omega
theorem wp_law_side (F : Fx) (s : Int) (ds : List Dt) (d : Dt) (s' : Int) (r : R_law_side s ds d s') : Wp F (t_law_side F.K F.cl) (ro1 ["_law_state", "_law_there", "_law_tables_here", "_law_pool_here", "_law_k"] s ds) (endM d s') := by
  obtain ⟨⟨pool, tabs, there, s⟩, ⟨hP, hT, hR⟩, rfl, rfl, rfl, rfl⟩ := r
  have hP : PoolOk pool := hP
  have hT : TabsOk tabs := hT
  have hR : ThereOk tabs there := hR
  obtain ⟨r1, r2, _⟩ := id hR
  have one : ∀ (s : Int) (x : Sl), (∀ s, x ≠ .pm s) → ∀ (j : Nat) (s' : Int), ([Sl.pm s, .im (natsT there), .im (tabsD tabs), .im (cellsL pool), x] : Ro)[j]? = some (.pm s') → j = 0 := fun s x hx => one_pm (nopm_im (nopm_im (nopm_im fun k s z => by
    cases k with
    | zero => exact hx s (Option.some.inj z)
    | succ k => exact nopm_nil k s z)))
  refine wp_seq (wp_if (et_test (ev_op (ev_callQ (i := 0) (ea_one ev_int) rfl rfl (one _ _ fun s z => nomatch z) ⟨(s, 4), sz4, rfl, rfl, rfl, rfl⟩) ev_int rv_eqI)) (fun e => ?_) fun e => wp_next ?_)
  · have e : s % 4 = 0 := of_decide_eq_true e
    obtain ⟨x1, x2⟩ := mod7 (s / 4)
    refine wp_ret (ev_tup (ea_two ev_str (ev_ixl (ev_var (d := cellsL pool) rfl) (ev_is (ev_callQ (i := 0) (ea_one ev_int) rfl rfl (one _ _ fun s z => nomatch z) ⟨(s / 4, 7), sz7, rfl, rfl, rfl, rfl⟩) (congrArg Dt.int (nat_of x1))) (pool_get hP x1 x2))) (sm rfl)) ⟨?_, ?_⟩
    · show _ = (sideG pool tabs there s).1.d
      rw [sideG, if_pos e]
      rfl
    · show _ = some (Sl.pm (sideG pool tabs there s).2)
      rw [sideG, if_pos e]
      rfl
  · have e : ¬ s % 4 = 0 := of_decide_eq_false e
    obtain ⟨m1, m2⟩ := modN (x := s / 4) r1
    obtain ⟨t1, t2⟩ := there_at hR m1
    obtain ⟨w1, w2⟩ := width_ok hT t2
    obtain ⟨v1⟩ : 0 ≤ s / 4 / ((there.length : Nat) : Int) % widthAt tabs (there.getD (s / 4 % ((there.length : Nat) : Int)).toNat 0) ∧ True := ⟨Int.emod_nonneg _ (by omega), trivial⟩
    refine wp_seq (wp_set (ev_is (ev_callQ (i := 0) (ea_one (ev_lenT (l := there) (ev_var rfl))) rfl rfl (one _ _ fun s z => nomatch z) ⟨(s / 4, ((there.length : Nat) : Int)), ⟨by show (0 : Int) < _; omega, by show ((there.length : Nat) : Int) < 1000; omega⟩, rfl, rfl, rfl, rfl⟩) (congrArg Dt.int m2)) ?_)
    refine wp_ret (ev_tup (ea_cons ev_str (ea_two (ev_var rfl) (ev_is (ev_callQ (i := 0) (ea_one (ev_width hT t2 (ev_var rfl) (ev_ixv (ev_var rfl) (ev_var rfl) (nat_get t1)))) rfl rfl (one _ _ fun s z => nomatch z) ⟨(s / 4 / ((there.length : Nat) : Int), widthAt tabs (there.getD (s / 4 % ((there.length : Nat) : Int)).toNat 0)), ⟨w1, by show widthAt _ _ < 1000; omega⟩, rfl, rfl, rfl, rfl⟩) (congrArg Dt.int (nat_of v1))))) (sm rfl)) ⟨?_, ?_⟩
    · show _ = (sideG pool tabs there s).1.d
      rw [sideG, if_neg e]
      rfl
    · show _ = some (Sl.pm (sideG pool tabs there s).2)
      rw [sideG, if_neg e]
      rfl
theorem many_lim : ∀ k : Fin 6, 1 ≤ [1, 1, 2, 1, 2, 3].getD k.val 0 ∧ [1, 1, 2, 1, 2, 3].getD k.val 0 ≤ 3 := by decide
theorem many_at : ∀ k : Fin 6, ([1, 1, 2, 1, 2, 3].map natD)[k.val]? = some (natD ([1, 1, 2, 1, 2, 3].getD k.val 0)) := fun k => match k with
  | ⟨0, _⟩ => rfl
  | ⟨1, _⟩ => rfl
  | ⟨2, _⟩ => rfl
  | ⟨3, _⟩ => rfl
  | ⟨4, _⟩ => rfl
  | ⟨5, _⟩ => rfl
theorem manyTests_lim (s : Int) : 1 ≤ manyTests s ∧ manyTests s ≤ 3 := by
  have h : (s % 6).toNat < 6 := by omega
  exact many_lim ⟨(s % 6).toNat, h⟩
theorem words_at : ∀ k : Fin 3, (wordsOf.map Dt.str)[k.val]? = some (.str (wordsOf.getD k.val "same")) := fun k => match k with
  | ⟨0, _⟩ => rfl
  | ⟨1, _⟩ => rfl
  | ⟨2, _⟩ => rfl
theorem wp_law_tests (F : Fx) (s : Int) (ds : List Dt) (d : Dt) (s' : Int) (r : R_law_tests s ds d s') : Wp F (t_law_tests F.K F.cl) (ro1 ["_law_state", "_law_there", "_law_tables_here", "_law_pool_here", "_law_tests_here", "_law_k", "_law_word", "_law_left"] s ds) (endM d s') := by
  obtain ⟨⟨pool, tabs, there, s⟩, ⟨hP, hT, hR⟩, rfl, rfl, rfl, rfl⟩ := r
  have hP : PoolOk pool := hP
  have hT : TabsOk tabs := hT
  have hR : ThereOk tabs there := hR
  have hm := manyTests_lim s
  have six : (s % 6).toNat < 6 := by omega
  have one : ∀ (s : Int) (a b c e : Sl), (∀ s, a ≠ .pm s) → (∀ s, b ≠ .pm s) → (∀ s, c ≠ .pm s) → (∀ s, e ≠ .pm s) → ∀ (j : Nat) (s' : Int), ([Sl.pm s, .im (natsT there), .im (tabsD tabs), .im (cellsL pool), a, b, c, e] : Ro)[j]? = some (.pm s') → j = 0 := fun s a b c e ha hb hc he => one_pm (nopm_im (nopm_im (nopm_im fun k s z => by
    match k, z with
    | 0, z => exact ha s (Option.some.inj z)
    | 1, z => exact hb s (Option.some.inj z)
    | 2, z => exact hc s (Option.some.inj z)
    | 3, z => exact he s (Option.some.inj z)
    | k + 4, z => exact nopm_nil k s z)))
  let st := testSt pool tabs there (s / 6)
  let te : Nat → Test := fun i => (testG pool tabs there (st i)).1
  refine wp_seq (wp_newL ea_nil (sm rfl) ?_)
  refine wp_seq (wp_forL (List.range (manyTests s)) natD [5, 6, 7] (fun pre => [.pm (st pre.length), .im (natsT there), .im (tabsD tabs), .im (cellsL pool), .ow (.ls ((List.range pre.length).map fun i => (te i).d)), .no, .no, .no]) (fun _ => True)
    (ei_rng (ea_one (ev_ixl (ds := [1, 1, 2, 1, 2, 3].map natD) (ev_lst (ea_cons ev_int (ea_cons ev_int (ea_cons ev_int (ea_cons ev_int (ea_two ev_int ev_int))))) (sm rfl)) (ev_is (ev_callQ (i := 0) (ea_one ev_int) rfl rfl (one _ _ _ _ _ (fun s z => nomatch z) (fun s z => nomatch z) (fun s z => nomatch z) fun s z => nomatch z) ⟨(s, 6), sz6, rfl, rfl, rfl, rfl⟩) (congrArg Dt.int (nat_of (by show 0 ≤ s % 6; omega)))) (many_at ⟨(s % 6).toNat, six⟩))) (by show manyTests s < 100000; omega)) rfl trivial (fun pre i post eq _ => ⟨[5], _, tg_name, ?_⟩) fun _ => ?_)
  · obtain ⟨_, hlt⟩ := range_pre eq
    have three : (st pre.length % 3).toNat < 3 := by omega
    refine wp_seq (wp_set (ev_ixl (ds := wordsOf.map Dt.str) (ev_lst (ea_cons ev_str (ea_two ev_str ev_str)) (sm rfl)) (ev_is (ev_callQ (i := 0) (ea_one ev_int) rfl rfl (one _ _ _ _ _ (fun s z => nomatch z) (fun s z => nomatch z) (fun s z => nomatch z) fun s z => nomatch z) ⟨(st pre.length, 3), sz3, rfl, rfl, rfl, rfl⟩) (congrArg Dt.int (nat_of (by show 0 ≤ st pre.length % 3; omega)))) (words_at ⟨(st pre.length % 3).toNat, three⟩)) ?_)
    refine wp_seq (wp_set (ev_callQ (i := 0) (ea_cons (ev_var rfl) (ea_two (ev_var rfl) (ev_var rfl))) rfl rfl (one _ _ _ _ _ (fun s z => nomatch z) (fun s z => nomatch z) (fun s z => nomatch z) fun s z => nomatch z) ⟨(pool, tabs, there, st pre.length / 3), ⟨hP, hT, hR⟩, rfl, rfl, rfl, rfl⟩) ?_)
    refine wp_app (ev_tup (ea_cons (ev_var rfl) (ea_two (ev_var rfl) (ev_callQ (i := 0) (ea_cons (ev_var rfl) (ea_two (ev_var rfl) (ev_var rfl))) rfl rfl (one _ _ _ _ _ (fun s z => nomatch z) (fun s z => nomatch z) (fun s z => nomatch z) fun s z => nomatch z) ⟨(pool, tabs, there, (sideG pool tabs there (st pre.length / 3)).2), ⟨hP, hT, hR⟩, rfl, rfl, rfl, rfl⟩))) (sm rfl)) rfl rfl (by rw [List.length_map, List.length_range]; omega) ⟨trivial, ?_⟩
    rw [List.length_append]
    show _ = [Sl.pm (st (pre.length + 1)), _, _, _, Sl.ow (.ls ((List.range (pre.length + 1)).map fun i => (te i).d)), _, _, _]
    rw [List.range_succ, List.map_append]
    rfl
  · refine wp_ret (ev_CB (ea_one (ev_freeze rfl)) (rc_tuple (.inl rfl))) ⟨?_, ?_⟩
    · rw [List.length_range]
      show Dt.tup _ = Dt.tup ((testsG pool tabs there s).map Test.d)
      unfold testsG
      rw [List.map_map]
      rfl
    · rw [List.length_range]
      rfl
theorem wp_law_whole (F : Fx) (ds : List Dt) (d : Dt) (r : R_law_whole ds d) : Wp F (t_law_whole F.K F.cl) (ro0 ["_law_thing"] ds) (endP d) := by
  obtain ⟨i, _, rfl, rfl⟩ := r
  exact wp_ret (ev_and2 (ev_isi (ev_var rfl) rfl kt_ii) (ev_notV (a := false) (ev_isi (ev_var rfl) rfl kt_ib))) rfl
theorem wp_law_idle (F : Fx) (ds : List Dt) (d : Dt) (r : R_law_idle ds d) : Wp F (t_law_idle F.K F.cl) (ro0 ["_law_cell", "_law_tables_here", "_law_left"] ds) (endP d) := by
  obtain ⟨⟨tabs, c⟩, hT, rfl, rfl⟩ := r
  have hT : TabsOk tabs := hT
  obtain ⟨t1, t4, _⟩ := hT
  obtain ⟨m1, m2⟩ := modN (x := c / 7) t1
  refine wp_seq (wp_set (ev_tup (ea_two ev_str (ev_modC (ev_var rfl) (by decide))) (sm rfl)) ?_)
  refine wp_ret (ev_tup (ea_cons ev_str (ea_two (ev_is (ev_op (ev_divC (ev_var rfl) (by decide) (small51 (by decide) (by decide))) (ev_lenX (l := tabs) (ev_var rfl)) (rv_mod (by omega))) (congrArg Dt.int m2)) (ev_tup (ea_one (ev_tup (ea_cons (ev_var rfl) (ea_two ev_str (ev_tup (ea_two ev_str (ev_op (ev_op (ev_modC (ev_var rfl) (by decide)) ev_int rv_add) (ev_modC (ev_divC (ev_var rfl) (by decide) (small51 (by decide) (by decide))) (by decide)) rv_add)) (sm rfl)))) (sm rfl))) (sm rfl)))) (sm rfl)) rfl
theorem negC_d (c : Cell) : (negC c).d = match c with | .z i => .int (0 - i) | .s x => .str x := by cases c <;> rfl
theorem wp_law_turned (F : Fx) (ds : List Dt) (d : Dt) (r : R_law_turned ds d) : Wp F (t_law_turned F.K F.cl) (ro0 ["_law_rows_here", "_law_turned_here", "_law_t", "_law_cells", "_law_value"] ds) (endP d) := by
  obtain ⟨rows, ⟨h1, h2⟩, rfl, rfl⟩ := r
  have h1 : rows.length < 1000 := h1
  refine wp_seq (wp_newL ea_nil (sm rfl) ?_)
  refine wp_seq (wp_forL rows Row.d [2, 3, 4] (fun pre => [.im (rowsD rows), .ow (.ls ((pre.map turnR).map Row.d)), .no, .no, .no]) (fun _ => True) (ei_tup (ev_var rfl)) rfl trivial (fun pre r post eq _ => ⟨[2, 3], _, tg_tup rfl (tgs_cons (d := natD r.t) tg_name (tgs_cons (d := .tup (r.cs.map Cell.d)) tg_name tgs_nil)), ?_⟩) fun _ => ?_)
  · obtain ⟨hpl, hm⟩ := app_len eq
    have hc := h2 r hm
    have lc := ev_lcA (F := F) (ρ := [.im (rowsD rows), .ow (.ls ((pre.map turnR).map Row.d)), .im (natD r.t), .im (.tup (r.cs.map Cell.d)), .no]) (vs := [4]) (g := gName 4) (te := tIf (tB (tCB (rIsi F.K) (tCons (tVar 4) (tCons (tC (.ty "str")) tNil)))) (tVar 4) (tOp qSub (tC (.int 0)) (tVar 4))) r.cs Cell.d (fun c => (negC c).d) (ei_tup (ev_var (k := 3) (d := .tup (r.cs.map Cell.d)) rfl)) (by omega) (clean1 (.inl rfl)) fun B' G c hc =>
      ⟨[4], [.im (rowsD rows), .ow (.ls ((pre.map turnR).map Row.d)), .im (natD r.t), .im (.tup (r.cs.map Cell.d)), .im c.d], fun k hk => hk, tg_name, (by
        cases c with
        | z i => exact ev_ifx (b := false) (et_B (ev_isiS (c := .z i) (ev_var rfl))) (fun z => by cases z) fun _ => ev_op ev_int (ev_var rfl) rv_sub
        | s x => exact ev_ifx (b := true) (et_B (ev_isiS (c := .s x) (ev_var rfl))) (fun _ => ev_var rfl) (fun z => by cases z)), rfl⟩
    refine wp_app (ev_tup (ea_two (ev_var rfl) (ev_CB (ea_one lc) (rc_tuple (.inl rfl)))) (sm rfl)) rfl rfl (by rw [List.length_map, List.length_map]; omega) ⟨trivial, ?_⟩
    have e : (r.cs.map negC).map Cell.d = r.cs.map fun c => (negC c).d := by
      rw [List.map_map]
      rfl
    rw [List.map_append, List.map_append]
    show _ = [_, Sl.ow (.ls (_ ++ [Dt.tup [natD r.t, .tup ((r.cs.map negC).map Cell.d)]])), _, _, _]
    rw [e]
    rfl
  · exact wp_ret (ev_CB (ea_one (ev_freeze rfl)) (rc_tuple (.inl rfl))) rfl
theorem totalV_snoc (rows : List Row) (pre : List Nat) (i t c : Nat) : totalV rows (pre ++ [i]) t c = if (decide ((rowAt rows i).t = t) && (match cellAt (rowAt rows i) c with | .s _ => false | .z _ => true)) = true then totalV rows pre t c + numV (cellAt (rowAt rows i) c) else totalV rows pre t c := by
  unfold totalV
  rw [List.foldl_append]
  rfl
theorem wp_law_total (F : Fx) (ds : List Dt) (d : Dt) (r : R_law_total ds d) : Wp F (t_law_total F.K F.cl) (ro0 ["_law_rows_here", "_law_some", "_law_t", "_law_c", "_law_total_here", "_law_place"] ds) (endP d) := by
  obtain ⟨⟨rows, l, t, c⟩, h, rfl, rfl⟩ := r
  have h : ∀ i ∈ l, i < rows.length ∧ ((rowAt rows i).t = t → c < (rowAt rows i).cs.length) := h
  refine wp_seq (wp_set ev_int ?_)
  refine wp_seq (wp_forL l natD [5] (fun pre => [.im (rowsD rows), .im (natsT l), .im (natD t), .im (natD c), .im (.int (totalV rows pre t c)), .no]) (fun _ => True) (ei_tup (ev_var rfl)) rfl trivial (fun pre i post eq _ => ⟨[5], _, tg_name, ?_⟩) fun _ => wp_ret (ev_var rfl) rfl)
  obtain ⟨_, hm⟩ := app_len eq
  obtain ⟨hi, hc⟩ := h i hm
  have hr := row_get (rowAt_get hi)
  have hz : isZ (cellAt (rowAt rows i) c) = (match cellAt (rowAt rows i) c with | .s _ => false | .z _ => true) := by cases cellAt (rowAt rows i) c <;> rfl
  refine wp_if (et_and (b := isZ (cellAt (rowAt rows i) c)) (et_test (ev_op (ev_at 0 (d := natD (rowAt rows i).t) (ev_ixv (ev_var rfl) (ev_var rfl) hr) rfl) (ev_var rfl) rv_eqN)) fun e => et_is (et_not (et_B (ev_isiS (ev_ixv (ev_at 1 (d := .tup ((rowAt rows i).cs.map Cell.d)) (ev_ixv (ev_var rfl) (ev_var rfl) hr) rfl) (ev_var rfl) (cell_get (hc (of_decide_eq_true e))))))) (Bool.not_not _)) (fun e => ?_) fun e => wp_next ⟨trivial, ?_⟩
  · rw [hz] at e
    have e2 : (rowAt rows i).t = t := by
      rw [Bool.and_eq_true] at e
      exact of_decide_eq_true e.1
    have hd : (cellAt (rowAt rows i) c).d = .int (numV (cellAt (rowAt rows i) c)) := by
      rw [Bool.and_eq_true] at e
      cases hcell : cellAt (rowAt rows i) c with
      | z v => rfl
      | s x =>
        rw [hcell] at e
        cases e.2
    refine wp_set (ev_op (ev_var rfl) (ev_is (ev_ixv (ev_at 1 (d := .tup ((rowAt rows i).cs.map Cell.d)) (ev_ixv (ev_var rfl) (ev_var rfl) hr) rfl) (ev_var rfl) (cell_get (hc e2))) hd) rv_add) ⟨trivial, ?_⟩
    rw [totalV_snoc, if_pos e]
    rfl
  · rw [hz] at e
    rw [totalV_snoc, if_neg (by rw [e]; exact Bool.false_ne_true)]
    rfl
end Md
namespace Md
open PySem PySem.Spec PyProof.Rows L2 PySem.W
def RR (c : Int) (tabs : List Tab) (pool : List Cell) (kind : Int) (t u n : Nat) (x8 : Sl) (s : Int) (x9 : Sl) : Ro := [.im (.int c), .im (tabsD tabs), .im (cellsL pool), .ow (.ls [.int s]), .im (.int kind), .im (natD t), .im (natD u), .im (natD n), x8, x9]
theorem lc_cols {F : Fx} {c : Int} {tabs : List Tab} {pool : List Cell} {kind : Int} {t u n : Nat} {x8 : Sl} {s : Int} {k T : Nat} (hT : TabsOk tabs) (hlt : T < tabs.length) (hn : n ≤ 3) (hk : ∀ s x, (RR c tabs pool kind t u n x8 s x)[k]? = some (.im (natD T))) :
    Ev F (tLc (iRng1 (tCons (tVar 7) tNil)) (gName 9) tYes (tCall (sp_law_take F.K F.cl) [] E0 (tCons (tVar 3) (tCons (tOp (rIxT F.K) (tOp (rIxT F.K) (tVar 1) (tVar k)) (tC (.int 0))) tNil))) [9])
      (RR c tabs pool kind t u n x8 s .no) (natsL (colsG (widthAt tabs T) s n)) (RR c tabs pool kind t u n x8 (stD s (widthAt tabs T) n) .no) := by
  obtain ⟨w1, w2⟩ := width_ok hT hlt
  have z := ev_lcG (F := F) (ρ := RR c tabs pool kind t u n x8 s .no) (vs := [9]) (g := gName 9) (tt := tYes) (te := tCall (sp_law_take F.K F.cl) [] E0 (tCons (tVar 3) (tCons (tOp (rIxT F.K) (tOp (rIxT F.K) (tVar 1) (tVar k)) (tC (.int 0))) tNil)))
    (fun i => RR c tabs pool kind t u n x8 (stD s (widthAt tabs T) i) .no) (fun _ => true) (fun i => .int (stD s (widthAt tabs T) i % widthAt tabs T))
    (ei_rng (n := n) (ea_one (ev_var (k := 7) (d := natD n) rfl)) (by omega)) (fun _ => trivial) (by rw [List.length_map, List.length_range]; omega) (fun _ => clean1 (.inl rfl)) (fun _ j hj => by rw [List.mem_singleton.mp hj]; rfl) (fun _ => rfl) fun B' G i x hx =>
      ⟨[9], RR c tabs pool kind t u n x8 (stD s (widthAt tabs T) i) (.im x), RR c tabs pool kind t u n x8 (stD s (widthAt tabs T) (i + 1)) (.im x), fun k hk => hk, tg_name, et_yes, fun _ =>
        ⟨ev_callO (i := 3) (ea_one (ev_width hT hlt (ev_var rfl) (ev_var (hk _ _)))) rfl rfl ⟨(stD s (widthAt tabs T) i, widthAt tabs T), ⟨w1, by show widthAt tabs T < 1000; omega⟩, rfl, rfl, rfl, rfl⟩, rfl⟩, fun e => by cases e⟩
  rw [List.filter_eq_self.mpr (fun _ _ => rfl), List.length_map, List.length_range] at z
  have e : (List.range n).map (fun i => Dt.int (stD s (widthAt tabs T) i % widthAt tabs T)) = (colsG (widthAt tabs T) s n).map natD := by
    unfold colsG
    rw [List.map_map]
    refine List.map_congr_left fun i _ => ?_
    exact congrArg Dt.int (nat_of (Int.emod_nonneg _ (by omega)))
  rw [e] at z
  exact z
theorem cols_at : ∀ k : Fin 5, ([1, 2, 1, 3, 1].map natD)[k.val]? = some (natD ([1, 2, 1, 3, 1].getD k.val 0)) := fun k => match k with
  | ⟨0, _⟩ => rfl
  | ⟨1, _⟩ => rfl
  | ⟨2, _⟩ => rfl
  | ⟨3, _⟩ => rfl
  | ⟨4, _⟩ => rfl
theorem cols_lim : ∀ k : Fin 5, 1 ≤ [1, 2, 1, 3, 1].getD k.val 0 ∧ [1, 2, 1, 3, 1].getD k.val 0 ≤ 3 := by decide
theorem manyCols_lim (s : Int) : 1 ≤ manyCols s ∧ manyCols s ≤ 3 := cols_lim ⟨(s % 5).toNat, by omega⟩
theorem wp_law_rule (F : Fx) (ds : List Dt) (d : Dt) (r : R_law_rule ds d) : Wp F (t_law_rule F.K F.cl) (ro0 ["_law_cell", "_law_tables_here", "_law_pool_here", "_law_state", "_law_kind", "_law_t", "_law_u", "_law_many", "_law_columns", "_law_k"] ds) (endP d) := by
  obtain ⟨⟨pool, tabs, c⟩, ⟨hP, hT⟩, rfl, rfl⟩ := r
  have hP : PoolOk pool := hP
  have hT : TabsOk tabs := hT
  obtain ⟨t1, t4, _⟩ := id hT
  let n : Int := ((tabs.length : Nat) : Int)
  let s0 := mixV c 2147483543
  have szn : 0 < n ∧ n < 1000 := ⟨by show (0 : Int) < ((tabs.length : Nat) : Int); omega, by show ((tabs.length : Nat) : Int) < 1000; omega⟩
  obtain ⟨m1, m2⟩ := modN (x := s0 / 4) t1
  obtain ⟨u1, u2⟩ := modN (x := s0 / 4 / n) t1
  refine wp_seq (wp_newL (ea_one (ev_call (ea_two (ev_var rfl) ev_int) ⟨(c, 2147483543), pr3, rfl, rfl⟩)) (sm rfl) ?_)
  refine wp_seq (wp_set (ev_callO (i := 3) (ea_one ev_int) rfl rfl ⟨(s0, 4), sz4, rfl, rfl, rfl, rfl⟩) ?_)
  refine wp_seq (wp_set (ev_is (ev_callO (i := 3) (ea_one (ev_lenX (l := tabs) (ev_var rfl))) rfl rfl ⟨(s0 / 4, n), szn, rfl, rfl, rfl, rfl⟩) (congrArg Dt.int m2)) ?_)
  refine wp_seq (wp_set (ev_is (ev_callO (i := 3) (ea_one (ev_lenX (l := tabs) (ev_var rfl))) rfl rfl ⟨(s0 / 4 / n, n), szn, rfl, rfl, rfl, rfl⟩) (congrArg Dt.int u2)) ?_)
  let t := (s0 / 4 % n).toNat
  let u := (s0 / 4 / n % n).toNat
  let s3 := s0 / 4 / n / n
  have ht : t < tabs.length := m1
  have hu : u < tabs.length := u1
  have hrule : ruleG tabs pool c = if s0 % 4 = 0 then .never t (testsG pool tabs [t] s3) else if s0 % 4 < 3 then .apart t u (testsG pool tabs [t, u] s3) else .tie t (colsG (widthAt tabs t) (s3 / 5) (manyCols s3)) u (colsG (widthAt tabs u) (stD (s3 / 5) (widthAt tabs t) (manyCols s3)) (manyCols s3)) := rfl
  refine wp_seq (wp_if (et_test (ev_op (ev_var (d := .int (s0 % 4)) rfl) ev_int rv_eqI)) (fun e => ?_) fun e => wp_next ?_)
  · refine wp_ret (ev_tup (ea_cons ev_str (ea_two (ev_var rfl) (ev_callO (i := 3) (ea_cons (ev_tup (ea_one (ev_var rfl)) (sm rfl)) (ea_two (ev_var rfl) (ev_var rfl))) rfl rfl ⟨(pool, tabs, [t], s3), ⟨hP, hT, by show 1 ≤ 1; decide, by show 1 ≤ 2; decide, fun x hx => by rw [List.mem_singleton.mp hx]; exact ht⟩, rfl, rfl, rfl, rfl⟩))) (sm rfl)) ?_
    show _ = (ruleG tabs pool c).d
    rw [hrule, if_pos (of_decide_eq_true e)]
    rfl
  refine wp_seq (wp_if (et_test (ev_op (ev_var (d := .int (s0 % 4)) rfl) ev_int rv_lt)) (fun e2 => ?_) fun e2 => wp_next ?_)
  · refine wp_ret (ev_tup (ea_cons ev_str (ea_cons (ev_var rfl) (ea_two (ev_var rfl) (ev_callO (i := 3) (ea_cons (ev_tup (ea_two (ev_var rfl) (ev_var rfl)) (sm rfl)) (ea_two (ev_var rfl) (ev_var rfl))) rfl rfl ⟨(pool, tabs, [t, u], s3), ⟨hP, hT, by show 1 ≤ 2; decide, by show 2 ≤ 2; decide, fun x hx => by
      rcases List.mem_cons.mp hx with z | hx
      · rw [z]
        exact ht
      · rw [List.mem_singleton.mp hx]
        exact hu⟩, rfl, rfl, rfl, rfl⟩)))) (sm rfl)) ?_
    show _ = (ruleG tabs pool c).d
    rw [hrule, if_neg (of_decide_eq_false e), if_pos (of_decide_eq_true e2)]
    rfl
  have five : (s3 % 5).toNat < 5 := by omega
  have hml := manyCols_lim s3
  refine wp_seq (wp_set (ev_ixl (ds := [1, 2, 1, 3, 1].map natD) (ev_lst (ea_cons ev_int (ea_cons ev_int (ea_cons ev_int (ea_two ev_int ev_int)))) (sm rfl)) (ev_is (ev_callO (i := 3) (ea_one ev_int) rfl rfl ⟨(s3, 5), sz5, rfl, rfl, rfl, rfl⟩) (congrArg Dt.int (nat_of (by show 0 ≤ s3 % 5; omega)))) (cols_at ⟨(s3 % 5).toNat, five⟩)) ?_)
  refine wp_seq (wp_set (ev_CB (ea_one (lc_cols (c := c) (tabs := tabs) (pool := pool) (kind := s0 % 4) (t := t) (u := u) (n := manyCols s3) (x8 := .no) (s := s3 / 5) (k := 5) (T := t) hT ht hml.2 fun _ _ => rfl)) (rc_tuple (.inl rfl))) ?_)
  refine wp_ret (ev_tup (ea_cons ev_str (ea_cons (ev_var rfl) (ea_cons (ev_var rfl) (ea_two (ev_var rfl) (ev_CB (ea_one (lc_cols (c := c) (tabs := tabs) (pool := pool) (kind := s0 % 4) (t := t) (u := u) (n := manyCols s3) (x8 := .im (natsT (colsG (widthAt tabs t) (s3 / 5) (manyCols s3)))) (s := stD (s3 / 5) (widthAt tabs t) (manyCols s3)) (k := 6) (T := u) hT hu hml.2 fun _ _ => rfl)) (rc_tuple (.inl rfl))))))) (sm rfl)) ?_
  show _ = (ruleG tabs pool c).d
  rw [hrule, if_neg (of_decide_eq_false e), if_neg (of_decide_eq_false e2)]
  rfl
/-- the law's own total is the program's -/
theorem total_sum (rows : List Row) (t c : Nat) : ∀ (l : List Nat), totalV rows l t c = sumV rows l t c := by
  have go : ∀ (l : List Nat) (a : Int), l.foldl (fun a i => if (decide ((rowAt rows i).t = t) && (match cellAt (rowAt rows i) c with | .s _ => false | .z _ => true)) = true then a + numV (cellAt (rowAt rows i) c) else a) a = a + (l.map (worthV rows t c)).sum := by
    intro l
    induction l with
    | nil =>
      intro a
      show a = a + 0
      omega
    | cons i l ih =>
      intro a
      rw [List.foldl_cons, ih, List.map_cons, List.sum_cons]
      have e : (if (decide ((rowAt rows i).t = t) && (match cellAt (rowAt rows i) c with | .s _ => false | .z _ => true)) = true then a + numV (cellAt (rowAt rows i) c) else a) = a + worthV rows t c i := by
        unfold worthV
        by_cases h : (rowAt rows i).t = t
        · rw [decide_eq_true h]
          cases cellAt (rowAt rows i) c with
          | z v => rfl
          | s x =>
            show a = a + 0
            omega
        · rw [decide_eq_false h]
          show a = a + 0
          omega
      rw [e]
      omega
  intro l
  have z := go l 0
  rw [Int.zero_add] at z
  exact z
theorem col_fits {B : Book} (hB : B.Ok) {t c i : Nat} (hi : i < B.rows.length) (hc : ColOk B.tabs t c) : (rowAt B.rows i).t = t → c < (rowAt B.rows i).cs.length := fun e => (hB.row _ (List.mem_of_getElem? (rowAt_get hi))).wide (by rw [e]; exact hc)
theorem wp_law_told_right (F : Fx) (ds : List Dt) (d : Dt) (r : R_law_told_right ds d) : Wp F (t_law_told_right F.K F.cl) (ro0 ["_law_book", "_law_told", "_law_totals", "_law_t", "_law_c", "_law_k"] ds) (endP d) := by
  obtain ⟨⟨B, x, ts, t, c⟩, ⟨hB, hc, hx⟩, rfl, rfl⟩ := r
  have hB : B.Ok := hB
  have h10 : B.rows.length ≤ 10 := hB.n10
  have hc : ColOk B.tabs t c := hc
  have hx : ToldOk B x ts t c := hx
  refine wp_seq (wp_no (et_or2 (et_notTup (ev_var rfl)) (et_or2 (et_lenNe (l := [.int x.lo, natsT x.a, .int x.hi, natsT x.b]) (ev_var rfl) rfl) (et_or2 (et_f (et_B (ev_call (ea_one (ev_at 0 (ev_var rfl) rfl)) ⟨x.lo, trivial, rfl, rfl⟩))) (et_f (et_B (ev_call (ea_one (ev_at 2 (ev_var rfl) rfl)) ⟨x.hi, trivial, rfl, rfl⟩)))))) (wp_next ?_))
  refine wp_seq (wp_no (et_or2 (et_no (ev_at 0 (d := .int x.lo) (ev_var rfl) rfl) (ev_CB (ea_one (ev_var rfl)) (rc_min hx.lo.1 hx.lo.2)) rv_neI (by rw [decide_eq_true rfl]; rfl)) (et_no (ev_at 2 (d := .int x.hi) (ev_var rfl) rfl) (ev_CB (ea_one (ev_var rfl)) (rc_max hx.hi.1 hx.hi.2)) rv_neI (by rw [decide_eq_true rfl]; rfl))) (wp_next ?_))
  have step : ∀ (k : Nat) (v : Int) (s : List Nat), s ∈ mendedV B → sumV B.rows s t c = v → [Dt.int x.lo, natsT x.a, .int x.hi, natsT x.b][k]? = some (natsT s) → 1 ≤ k → [Dt.int x.lo, natsT x.a, .int x.hi, natsT x.b][k - 1]? = some (.int v) → ∀ Φ : Pd, Φ.nx [.im B.d, .im x.d, .im (intsL ts), .im (natD t), .im (natD c), .im (natD k)] →
      Wp F (tSeq (tIfS (tOr (tTest (tOp rNotB (tCall (sp_is_mended F.K F.cl) [] E0 (tCons (tVar 0) (tCons (tOp (rIxT F.K) (tVar 1) (tVar 5)) tNil))) (tC (.bl true)))) (tTest (tOp rNe (tCall (sp_law_total F.K F.cl) [] E0 (tCons (tOp (rIxT F.K) (tVar 0) (tC (.int 2))) (tCons (tOp (rIxT F.K) (tVar 1) (tVar 5)) (tCons (tVar 3) (tCons (tVar 4) tNil))))) (tOp (rIxT F.K) (tVar 1) (tOp qSub (tVar 5) (tC (.int 1))))))) (tRet (tC (.bl false))) tNext)
        (tIfS (tTest (tOp rNe (tCall (sp_sum_in F.K F.cl) [] E0 (tCons (tVar 0) (tCons (tOp (rIxT F.K) (tVar 1) (tVar 5)) (tCons (tVar 3) (tCons (tVar 4) tNil))))) (tOp (rIxT F.K) (tVar 1) (tOp qSub (tVar 5) (tC (.int 1)))))) (tRet (tC (.bl false))) tNext))
        [.im B.d, .im x.d, .im (intsL ts), .im (natD t), .im (natD c), .im (natD k)] Φ := fun k v s hs hv h1 hk h2 Φ hΦ => by
    obtain ⟨g1, g2⟩ := mended_in hs
    have hl : s.length < 1000 := by omega
    have hsub : ∀ {ρ : Ro}, ρ[5]? = some (.im (natD k)) → Ev F (tOp qSub (tVar 5) (tC (.int 1))) ρ (natD (k - 1)) ρ := fun h => ev_is (ev_op (ev_var h) ev_int rv_sub) (congrArg Dt.int (by omega))
    refine wp_seq (wp_no (et_or2 (et_is (et_test (ev_op (d1 := .bl true) (ev_is (ev_call (ea_two (ev_var rfl) (ev_ixv (ev_var rfl) (ev_var rfl) h1)) ⟨(B, s), hB, rfl, rfl⟩) (congrArg Dt.bl (decide_eq_true hs))) ev_bl rv_notB)) rfl) (et_no (i := v) (j := v) (ev_is (ev_call (ea_cons (ev_at 2 (ev_var rfl) rfl) (ea_cons (ev_ixv (ev_var rfl) (ev_var rfl) h1) (ea_two (ev_var rfl) (ev_var rfl)))) ⟨(B.rows, s, t, c), fun i hi => ⟨g1 i hi, col_fits hB (g1 i hi) hc⟩, rfl, rfl⟩) (congrArg Dt.int (by
      show totalV B.rows s t c = v
      rw [total_sum, hv]))) (ev_ixv (ev_var rfl) (hsub rfl) h2) rv_neI (by rw [decide_eq_true rfl]; rfl))) (wp_next ?_))
    exact wp_no (et_no (i := v) (j := v) (ev_is (ev_call (ea_cons (ev_var rfl) (ea_cons (ev_ixv (ev_var rfl) (ev_var rfl) h1) (ea_two (ev_var rfl) (ev_var rfl)))) ⟨(B, s, t, c), ⟨hB, hl, g1, hc⟩, rfl, rfl⟩) (congrArg Dt.int hv)) (ev_ixv (ev_var rfl) (hsub rfl) h2) rv_neI (by rw [decide_eq_true rfl]; rfl)) (wp_next hΦ)
  refine wp_seq (wp_forL [1, 3] natD [5] (fun _ => [.im B.d, .im x.d, .im (intsL ts), .im (natD t), .im (natD c), .no]) (fun _ => True) (ei_tup (ev_tup (ea_two ev_int ev_int) (sm rfl))) rfl trivial (fun pre k post eq _ => ⟨[5], _, tg_name, ?_⟩) fun _ => wp_ret ev_bl rfl)
  have hk : k = 1 ∨ k = 3 := by
    have : k ∈ [1, 3] := (app_len eq).2
    simpa using this
  rcases hk with e | e
  · subst e
    exact step 1 x.lo x.a hx.a.1 hx.a.2 rfl (by decide) rfl _ ⟨trivial, rfl⟩
  · subst e
    exact step 3 x.hi x.b hx.b.1 hx.b.2 rfl (by decide) rfl _ ⟨trivial, rfl⟩
end Md
namespace Md
open PySem
/-! ### what the law makes is well formed -/
theorem tabs_ok (c : Int) : TabsOk ((tablesG c).map least3) := by
  have h1 := Int.emod_nonneg (mixV c 2147483629) (b := 3) (by decide)
  have h2 := Int.emod_lt_of_pos (mixV c 2147483629) (b := 3) (by decide)
  unfold TabsOk tablesG
  rw [List.length_map, List.length_map, List.length_range]
  refine ⟨by omega, by omega, fun t ht => ?_⟩
  obtain ⟨u, hu, rfl⟩ := List.mem_map.mp ht
  obtain ⟨i, _, rfl⟩ := List.mem_map.mp hu
  have w1 := Int.emod_nonneg (stD (mixV c 2147483629 / 3) 20 i) (b := 4) (by decide)
  have w2 := Int.emod_lt_of_pos (stD (mixV c 2147483629 / 3) 20 i) (b := 4) (by decide)
  have k1 := Int.emod_nonneg (stD (mixV c 2147483629 / 3) 20 i / 4) (b := 1 + stD (mixV c 2147483629 / 3) 20 i % 4 + 1) (by omega)
  have k2 := Int.emod_lt_of_pos (stD (mixV c 2147483629 / 3) 20 i / 4) (b := 1 + stD (mixV c 2147483629 / 3) 20 i % 4 + 1) (by omega)
  unfold TabOk least3 tabAt
  generalize stD (mixV c 2147483629 / 3) 20 i / 4 % (1 + stD (mixV c 2147483629 / 3) 20 i % 4 + 1) = k at *
  generalize stD (mixV c 2147483629 / 3) 20 i % 4 = w at *
  show 1 ≤ min (1 + w).toNat 3 ∧ min (1 + w).toNat 3 ≤ 4 ∧ min k.toNat 3 ≤ min (1 + w).toNat 3
  omega
theorem great_lim (c : Int) : 1 ≤ greatV c ∧ greatV c ≤ 999999999999999999999999999997 := by
  have e : (10 : Int) ^ 30 - 3 = 999999999999999999999999999997 := by decide
  unfold greatV
  rw [e]
  split
  · have h1 := Int.emod_nonneg (greatN c / 2) (b := 999999999999999999999999999997) (by decide)
    have h2 := Int.emod_lt_of_pos (greatN c / 2) (b := 999999999999999999999999999997) (by decide)
    omega
  · have h1 := Int.emod_nonneg ((greatN c % 10 ^ 30 * 48271 + 11) ^ 4) (b := 999999999999999999999999999997) (by decide)
    have h2 := Int.emod_lt_of_pos ((greatN c % 10 ^ 30 * 48271 + 11) ^ 4) (b := 999999999999999999999999999997) (by decide)
    omega
theorem name_ok {l : List Nat} (h1 : 1 ≤ l.length) (h2 : l.length ≤ 8) (h3 : ∀ c ∈ l, 97 ≤ c ∧ c ≤ 122) : (Cell.s ⟨l.toArray⟩).Ok := by
  show 1 ≤ l.toArray.size ∧ l.toArray.size ≤ 8 ∧ ∀ c ∈ l.toArray.toList, 97 ≤ c ∧ c ≤ 122
  rw [List.size_toArray]
  exact ⟨h1, h2, h3⟩
theorem pool_ok (c : Int) : PoolOk (poolV c) := by
  obtain ⟨g1, g2⟩ := great_lim c
  have hN := nameCs_lim (mixV c 2147483587)
  have hk := poolK_lt c
  have a1 := Int.emod_nonneg (greatN c / 64) (b := 5) (by decide)
  have a2 := Int.emod_lt_of_pos (greatN c / 64) (b := 5) (by decide)
  have b1 := Int.emod_nonneg (greatN c / 320) (b := 5) (by decide)
  have b2 := Int.emod_lt_of_pos (greatN c / 320) (b := 5) (by decide)
  have eb : bey = 1000000000000000000000000000000 := rfl
  have num : ∀ v : Int, -1000000000000000000000000000000 < v → v < 1000000000000000000000000000000 → (Cell.z v).Ok := fun v h1 h2 => by
    show 0 - bey < v ∧ v < bey
    rw [eb]
    omega
  have ho : (Cell.s (otherV c)).Ok := by
    refine name_ok ?_ ?_ ?_
    · unfold otherCs
      rw [List.length_append, List.length_append]
      show 1 ≤ _ + 1 + _
      omega
    · unfold otherCs
      rw [List.length_append, List.length_append, List.length_take, List.length_drop]
      show _ + 1 + _ ≤ 8
      omega
    · intro x hx
      unfold otherCs at hx
      rcases List.mem_append.mp hx with hx | hx
      · rcases List.mem_append.mp hx with hx | hx
        · exact nameCs_ok _ x (List.mem_of_mem_take hx)
        · rw [List.mem_singleton.mp hx]
          exact ltr_lim _
      · exact nameCs_ok _ x (List.mem_of_mem_drop hx)
  have hn : (Cell.s (nameV (mixV c 2147483587))).Ok := name_ok hN.1 hN.2 (nameCs_ok _)
  refine ⟨rfl, fun x hx => ?_⟩
  have hx : x = .z (greatN c / 64 % 5) ∨ x = .z (greatV c) ∨ x = .s (nameV (mixV c 2147483587)) ∨ x = .z (0 - greatV c) ∨ x = .s (otherV c) ∨ x = .z (greatN c / 320 % 5 + 7) ∨ x = .z (greatV c + 1) := by
    unfold poolV at hx
    simpa using hx
  rcases hx with e | e | e | e | e | e | e <;> rw [e]
  · exact num _ (by omega) (by omega)
  · exact num _ (by omega) (by omega)
  · exact hn
  · exact num _ (by omega) (by omega)
  · exact ho
  · exact num _ (by omega) (by omega)
  · exact num _ (by omega) (by omega)
section
variable {pool : List Cell} {tabs : List Tab} {there : List Nat} (hP : PoolOk pool) (hT : TabsOk tabs)
include hP hT
theorem side_ok (hR : ThereOk tabs there) (s : Int) : (sideG pool tabs there s).1.Ok tabs there := by
  unfold sideG
  split
  · obtain ⟨x1, x2⟩ := mod7 (s / 4)
    exact poolAt_ok hP x1 x2
  · obtain ⟨m1, m2⟩ := modN (x := s / 4) hR.1
    obtain ⟨t1, t2⟩ := there_at hR m1
    obtain ⟨w1, w2⟩ := width_ok hT t2
    refine ⟨_, t1, _, (tab_at hT t2).1, ?_⟩
    have v1 := Int.emod_nonneg (s / 4 / ((there.length : Nat) : Int)) (b := widthAt tabs (there.getD (s / 4 % ((there.length : Nat) : Int)).toNat 0)) (by omega)
    have v2 := Int.emod_lt_of_pos (s / 4 / ((there.length : Nat) : Int)) (b := widthAt tabs (there.getD (s / 4 % ((there.length : Nat) : Int)).toNat 0)) w1
    have e : widthAt tabs (there.getD (s / 4 % ((there.length : Nat) : Int)).toNat 0) = ((tabs.getD (there.getD (s / 4 % ((there.length : Nat) : Int)).toNat 0) (0, 0)).1 : Nat) := rfl
    omega
theorem tests_ok (hR : ThereOk tabs there) (s : Int) : TestsOk tabs there (testsG pool tabs there s) := by
  obtain ⟨m1, m2⟩ := manyTests_lim s
  unfold TestsOk testsG
  rw [List.length_map, List.length_range]
  refine ⟨m1, m2, fun t ht => ?_⟩
  obtain ⟨i, _, rfl⟩ := List.mem_map.mp ht
  refine ⟨side_ok hP hT hR _, ?_, side_ok hP hT hR _⟩
  have three : (testSt pool tabs there (s / 6) i % 3).toNat < 3 := by omega
  have hw : ∀ k : Fin 3, wordsOf.getD k.val "same" ∈ wordsOf := by decide +kernel
  exact hw ⟨_, three⟩
theorem cols_ok {t : Nat} (ht : t < tabs.length) (s : Int) (n : Nat) : ∀ c ∈ colsG (widthAt tabs t) s n, ColOk tabs t c := fun c hc => by
  obtain ⟨i, _, rfl⟩ := List.mem_map.mp hc
  obtain ⟨w1, w2⟩ := width_ok hT ht
  refine ⟨_, (tab_at hT ht).1, ?_⟩
  have v1 := Int.emod_nonneg (stD s (widthAt tabs t) i) (b := widthAt tabs t) (by omega)
  have v2 := Int.emod_lt_of_pos (stD s (widthAt tabs t) i) (b := widthAt tabs t) w1
  have e : widthAt tabs t = ((tabs.getD t (0, 0)).1 : Nat) := rfl
  omega
theorem rule_ok (c : Int) : (ruleG tabs pool c).Ok tabs := by
  obtain ⟨m1, m2⟩ := modN (x := mixV c 2147483543 / 4) hT.1
  obtain ⟨u1, u2⟩ := modN (x := mixV c 2147483543 / 4 / ((tabs.length : Nat) : Int)) hT.1
  unfold ruleG
  simp only
  split
  · exact ⟨m1, tests_ok hP hT ⟨by show 1 ≤ 1; decide, by show 1 ≤ 2; decide, fun x hx => by rw [List.mem_singleton.mp hx]; exact m1⟩ _⟩
  · split
    · exact ⟨m1, u1, tests_ok hP hT ⟨by show 1 ≤ 2; decide, by show 2 ≤ 2; decide, fun x hx => by
        rcases List.mem_cons.mp hx with z | hx
        · rw [z]
          exact m1
        · rw [List.mem_singleton.mp hx]
          exact u1⟩ _⟩
    · obtain ⟨l1, l2⟩ := manyCols_lim (mixV c 2147483543 / 4 / ((tabs.length : Nat) : Int) / ((tabs.length : Nat) : Int))
      refine ⟨m1, u1, ?_, ?_, ?_, cols_ok hP hT m1 _ _, cols_ok hP hT u1 _ _⟩
      · unfold colsG
        rw [List.length_map, List.length_range]
        exact l1
      · unfold colsG
        rw [List.length_map, List.length_range]
        exact l2
      · unfold colsG
        rw [List.length_map, List.length_range, List.length_map, List.length_range]
end
theorem idle_ok {tabs : List Tab} (hT : TabsOk tabs) (c : Int) : Idle tabs (idleG tabs c) := by
  obtain ⟨m1, m2⟩ := modN (x := c / 7) hT.1
  have a1 := Int.emod_nonneg c (b := 7) (by decide)
  have a2 := Int.emod_lt_of_pos c (b := 7) (by decide)
  have b1 := Int.emod_nonneg (c / 28) (b := 5) (by decide)
  have b2 := Int.emod_lt_of_pos (c / 28) (b := 5) (by decide)
  have eb : bey = 1000000000000000000000000000000 := rfl
  have num : ∀ v : Int, -1000000000000000000000000000000 < v → v < 1000000000000000000000000000000 → (Cell.z v).Ok := fun v h1 h2 => by
    show 0 - bey < v ∧ v < bey
    rw [eb]
    omega
  refine ⟨_, _, _, rfl, by omega, m1, Nat.le_refl 1, by show 1 ≤ 3; decide, fun t ht => ?_⟩
  rw [List.mem_singleton.mp ht]
  exact ⟨num _ (by omega) (by omega), List.mem_cons_self, num _ (by omega) (by omega)⟩
theorem many_lim3 (ns : List Int) : manyL ns ≤ 3 := by
  unfold manyL
  have a1 := Int.emod_nonneg (headL ns) (b := 2) (by decide)
  have a2 := Int.emod_lt_of_pos (headL ns) (b := 2) (by decide)
  have b1 := Int.emod_nonneg (headL ns / 2) (b := 3) (by decide)
  have b2 := Int.emod_lt_of_pos (headL ns / 2) (b := 3) (by decide)
  generalize headL ns % 2 = a at *
  generalize headL ns / 2 % 3 = b at *
  have h : a = 0 ∨ a = 1 := by omega
  rcases h with h | h <;> subst h <;> omega
theorem wideL (ns : List Int) : WideOk (2 + headL ns / 6 % 6) := by
  have a1 := Int.emod_nonneg (headL ns / 6) (b := 6) (by decide)
  have a2 := Int.emod_lt_of_pos (headL ns / 6) (b := 6) (by decide)
  unfold WideOk
  omega
theorem book_ok (ns : List Int) : (bookL ns).Ok := by
  have hT : TabsOk (tabsL ns) := tabs_ok _
  have hP : PoolOk (poolL ns) := pool_ok _
  refine ⟨hT.1, hT.2.1, hT.2.2, ?_, fun r hr => ?_, ?_, fun r hr => ?_, ?_⟩
  · show (rulesL ns).length ≤ 6
    unfold rulesL
    rw [List.length_map, List.length_range]
    have := many_lim3 ns
    omega
  · obtain ⟨k, _, rfl⟩ := List.mem_map.mp hr
    exact rule_ok hP hT _
  · show (rowsL ns).length ≤ 10
    unfold rowsL
    rw [List.length_take]
    omega
  · obtain ⟨c, _, rfl⟩ := rowsG_in (List.mem_of_mem_take hr)
    exact rowG_ok hT hP (wideL ns)
  · exact (List.take_sublist _ _).nodup (foldPut_nd _ _ _ List.Pairwise.nil)
theorem turn_ok {B : Book} (hB : B.Ok) : Book.Ok ⟨B.tabs, [], B.rows.map turnR⟩ := by
  refine ⟨hB.t1, hB.t4, hB.tab, Nat.zero_le _, fun r hr => (nomatch hr), ?_, fun r hr => ?_, ?_⟩
  · show (B.rows.map turnR).length ≤ 10
    rw [List.length_map]
    exact hB.n10
  · obtain ⟨r, hr', rfl⟩ := List.mem_map.mp hr
    obtain ⟨T, h1, h2, h3⟩ := hB.row r hr'
    refine ⟨T, h1, ?_, fun c hc => ?_⟩
    · show (r.cs.map negC).length = _
      rw [List.length_map]
      exact h2
    · obtain ⟨c, hc', rfl⟩ := List.mem_map.mp hc
      have h := h3 c hc'
      cases c with
      | z i =>
        have h : 0 - bey < i ∧ i < bey := h
        show 0 - bey < 0 - i ∧ 0 - i < bey
        omega
      | s x => exact h
  · show (B.rows.map turnR).Nodup
    have := hB.nd
    unfold List.Nodup at this ⊢
    rw [List.pairwise_map]
    exact this.imp fun h e => h (turnR_inj e)
theorem idle_book {B : Book} {r : Rule} (hB : B.Ok) (hr : r.Ok B.tabs) : Book.Ok ⟨B.tabs, [r], B.rows⟩ :=
  ⟨hB.t1, hB.t4, hB.tab, by show 1 ≤ 6; decide, fun x hx => by rw [List.mem_singleton.mp hx]; exact hr, hB.n10, hB.row, hB.nd⟩
end Md
namespace Md
open PySem PySem.Spec PyProof.Rows L2 PySem.W
theorem mended_len {B : Book} (hB : B.Ok) : (mendedV B).length ≤ 1024 := by
  have z := someV_len B hB.n10
  have z2 : (mendedV B).length = (greatestOnes (someV B)).length := List.length_mergeSort ..
  have z3 : (greatestOnes (someV B)).length ≤ (someV B).length := by
    unfold greatestOnes
    rw [List.length_map]
    exact Nat.le_trans (List.length_filter_le ..) byBits_len
  omega
theorem nice_two (a b : Int) : Nice 1 (.tup [.int a, .int b]) := nice_tupI [a, b]
theorem wp_law_column_right (F : Fx) (ds : List Dt) (d : Dt) (r : R_law_column_right ds d) : Wp F (t_law_column_right F.K F.cl) (ro0 ["_law_book", "_law_some", "_law_t", "_law_c", "_law_idle_here", "_law_tables_here", "_law_rules", "_law_rows_here", "_law_told", "_law_totals", "_law_one", "_law_every", "_law_total_here", "_law_through", "_law_turned_here", "_law_due"] ds) (endP d) := by
  obtain ⟨⟨B, t, c, ru⟩, ⟨hB, hc, hI⟩, rfl, rfl⟩ := r
  have hB : B.Ok := hB
  have hc : ColOk B.tabs t c := hc
  have hI : Idle B.tabs ru := hI
  have h10 : B.rows.length ≤ 10 := hB.n10
  have hml := mended_len hB
  have hx := told_right B t c
  let x := sumsV B t c
  refine wp_seq (wp_asg (ev_var (d := B.d) rfl) (tg_tup (ds := [tabsD B.tabs, rulesD B.rules, rowsD B.rows]) rfl (tgs_cons tg_name (tgs_cons tg_name (tgs_cons tg_name tgs_nil)))) ?_)
  refine wp_seq (wp_set (ev_call (ea_cons (ev_var rfl) (ea_two (ev_var rfl) (ev_var rfl))) ⟨(B, t, c), ⟨hB, hc⟩, rfl, rfl⟩) ?_)
  have lc := ev_lcA (F := F) (ρ := [.im B.d, .im (setsL (mendedV B)), .im (natD t), .im (natD c), .im ru.d, .im (tabsD B.tabs), .im (rulesD B.rules), .im (rowsD B.rows), .im x.d, .no, .no, .no, .no, .no, .no, .no]) (vs := [10]) (g := gName 10) (te := tCall (sp_law_total F.K F.cl) [] E0 (tCons (tVar 7) (tCons (tVar 10) (tCons (tVar 2) (tCons (tVar 3) tNil))))) (mendedV B) natsT (fun s => .int (sumV B.rows s t c)) (ei_list (ev_var (k := 1) (d := setsL (mendedV B)) rfl)) (by omega) (clean1 (.inl rfl)) fun B' G s hs => by
    obtain ⟨g1, g2⟩ := mended_in hs
    exact ⟨[10], _, fun k hk => hk, tg_name, ev_is (ev_call (ea_cons (ev_var rfl) (ea_cons (ev_var rfl) (ea_two (ev_var rfl) (ev_var rfl)))) ⟨(B.rows, s, t, c), fun i hi => ⟨g1 i hi, col_fits hB (g1 i hi) hc⟩, rfl, rfl⟩) (congrArg Dt.int (total_sum B.rows t c s)), rfl⟩
  have e : (mendedV B).map (fun s => Dt.int (sumV B.rows s t c)) = (totalsV B t c).map .int := by
    unfold totalsV
    rw [List.map_map]
    rfl
  rw [e] at lc
  refine wp_seq (wp_set lc ?_)
  refine wp_seq (wp_no (et_f (et_B (ev_call (ea_cons (ev_var rfl) (ea_cons (ev_var rfl) (ea_cons (ev_var rfl) (ea_two (ev_var rfl) (ev_var rfl))))) ⟨(B, x, totalsV B t c, t, c), ⟨hB, hc, hx⟩, rfl, rfl⟩))) (wp_next ?_))
  refine wp_seq (wp_set (ev_is (ev_tupRg (n := B.rows.length) (ev_lenX (l := B.rows) (ev_var rfl)) (by omega)) (show _ = natsT (allRows B) from rfl)) ?_)
  refine wp_seq (wp_set (ev_is (ev_call (ea_cons (ev_var rfl) (ea_cons (ev_var rfl) (ea_two (ev_var rfl) (ev_var rfl)))) ⟨(B.rows, allRows B, t, c), fun i hi => ⟨List.mem_range.mp hi, col_fits hB (List.mem_range.mp hi) hc⟩, rfl, rfl⟩) (congrArg Dt.int (total_sum B.rows t c (allRows B)))) ?_)
  refine wp_seq (wp_no (et_is (et_and (b := false) (et_B (ev_call (ea_two (ev_var rfl) (ev_var rfl)) ⟨(B, allRows B), rowsIn_all hB, rfl, rfl⟩)) fun e => ?_) (Bool.and_false _)) (wp_next ?_))
  · obtain ⟨g1, g2⟩ := good_told (t := t) (c := c) e hx
    exact et_or2 (et_no (i := x.lo) (ev_at 0 (ds := [.int x.lo, natsT x.a, .int x.hi, natsT x.b]) (ev_var rfl) rfl) (ev_var rfl) rv_neI (by rw [decide_eq_true g1]; rfl)) (et_no (i := x.hi) (ev_at 2 (ds := [.int x.lo, natsT x.a, .int x.hi, natsT x.b]) (ev_var rfl) rfl) (ev_var rfl) rv_neI (by rw [decide_eq_true g2]; rfl))
  refine wp_seq (wp_if (et_B (ev_call (ea_one (ev_var rfl)) ⟨B, trivial, rfl, rfl⟩)) (fun e => ?_) fun e => wp_next (wp_ret ev_bl rfl))
  have hp : B.rules = [] := List.isEmpty_iff.mp e
  obtain ⟨it, ia, ib, ie, iab, iok⟩ := hI
  let B1 : Book := ⟨B.tabs, [ru], B.rows⟩
  let B2 : Book := ⟨B.tabs, [], B.rows.map turnR⟩
  have k1 : B1.Ok := idle_book hB iok
  have k2 : B2.Ok := turn_ok hB
  have wide : ∀ r ∈ B.rows, r.cs.length < 1000 := fun r hr => by
    obtain ⟨T, h1, h2, _⟩ := hB.row r hr
    have := (hB.tab T (List.mem_of_getElem? h1)).2.1
    omega
  obtain ⟨i1, i2⟩ := idle_told (B := B) (r := ru) hp ⟨it, ia, ib, ie, iab⟩ t c
  obtain ⟨u1, u2⟩ := turn_told (B := B) hp t c
  refine wp_seq (wp_set (ev_call (ea_cons (ev_call (ea_cons (ev_var rfl) (ea_two (ev_tup (ea_one (ev_var rfl)) (sm rfl)) (ev_var rfl))) ⟨B1, k1, rfl, rfl⟩) (ea_two (ev_var rfl) (ev_var rfl))) ⟨(B1, t, c), ⟨k1, hc⟩, rfl, rfl⟩) ?_)
  refine wp_seq (wp_set (ev_call (ea_cons (ev_call (ea_cons (ev_var rfl) (ea_two (ev_tup ea_nil (sm rfl)) (ev_call (ea_one (ev_var rfl)) ⟨B.rows, ⟨by show B.rows.length < 1000; omega, wide⟩, rfl, rfl⟩))) ⟨B2, k2, rfl, rfl⟩) (ea_two (ev_var rfl) (ev_var rfl))) ⟨(B2, t, c), ⟨k2, hc⟩, rfl, rfl⟩) ?_)
  let y := sumsV B1 t c
  let z := sumsV B2 t c
  refine wp_seq (wp_set (ev_tup (ea_two (ev_at 0 (ds := [.int x.lo, natsT x.a, .int x.hi, natsT x.b]) (ev_var rfl) rfl) (ev_at 2 (ds := [.int x.lo, natsT x.a, .int x.hi, natsT x.b]) (ev_var rfl) rfl)) (sm rfl)) ?_)
  refine wp_ret (ev_and2 (ev_op (ev_tup (ea_two (ev_at 0 (ds := [.int y.lo, natsT y.a, .int y.hi, natsT y.b]) (ev_var rfl) rfl) (ev_at 2 (ds := [.int y.lo, natsT y.a, .int y.hi, natsT y.b]) (ev_var rfl) rfl)) (sm rfl)) (ev_var rfl) (rv_eqD (b := true) (nice_two _ _) (nice_two _ _) (by decide) ⟨fun _ => ?_, fun _ => rfl⟩))
    (ev_op (ev_tup (ea_two (ev_op ev_int (ev_at 2 (ds := [.int z.lo, natsT z.a, .int z.hi, natsT z.b]) (ev_var rfl) rfl) rv_sub) (ev_op ev_int (ev_at 0 (ds := [.int z.lo, natsT z.a, .int z.hi, natsT z.b]) (ev_var rfl) rfl) rv_sub)) (sm rfl)) (ev_var rfl) (rv_eqD (b := true) (nice_two _ _) (nice_two _ _) (by decide) ⟨fun _ => ?_, fun _ => rfl⟩))) rfl
  · show Dt.tup [.int y.lo, .int y.hi] = Dt.tup [.int x.lo, .int x.hi]
    rw [show y.lo = x.lo from i1, show y.hi = x.hi from i2]
  · show Dt.tup [.int (0 - z.hi), .int (0 - z.lo)] = Dt.tup [.int x.lo, .int x.hi]
    rw [show 0 - z.hi = x.lo from u1, show 0 - z.lo = x.hi from u2]
theorem clean2 {ρ : Ro} {j k : Nat} (h : ρ[j]? = some .no ∨ (∃ d, ρ[j]? = some (.im d))) (g : ρ[k]? = some .no ∨ (∃ d, ρ[k]? = some (.im d))) : Clean ρ [j, k] := fun i hi => by
  rcases List.mem_cons.mp hi with e | hi
  · rw [e]
    exact clean_im h
  · rw [List.mem_singleton.mp hi]
    exact clean_im g
theorem min3 (a : Nat) : Dt.int (min ((a : Nat) : Int) 3) = natD (min a 3) := congrArg Dt.int (by omega)
theorem wp_law (F : Fx) (ds : List Dt) (d : Dt) (r : R_law ds d) : Wp F (t_law F.K F.cl) (ro0 ["_law_script", "_law_pool_here", "_law_head", "_law_tables_here", "_law_wide", "_law_key", "_law_many", "_law_rules", "_law_k", "_law_rows_here", "_law_book", "_law_some", "_law_number", "_law_t", "_law_c"] ds) (endP d) := by
  obtain ⟨ns, h63, rfl, rfl⟩ := r
  have h63 : ns.length ≤ 63 := h63
  have hB := book_ok ns
  have hT : TabsOk (tabsL ns) := tabs_ok _
  have hP : PoolOk (poolL ns) := pool_ok _
  have hm3 := many_lim3 ns
  have hml := mended_len hB
  have htl : (tablesG (scr ns 1)).length ≤ 4 := by
    have z := hT.2.1
    unfold tabsL at z
    rwa [List.length_map] at z
  refine wp_seq (wp_set (ev_call (ea_one (ev_call (ea_two (ev_var rfl) ev_int) ⟨(ns, 0), trivial, rfl, rfl⟩)) ⟨scr ns 0, trivial, rfl, rfl⟩) ?_)
  refine wp_seq (wp_set (ev_call (ea_two (ev_var rfl) ev_int) ⟨(ns, 2), trivial, rfl, rfl⟩) ?_)
  have l1 := ev_lcA (F := F) (ρ := [.im (intsL ns), .im (cellsL (poolL ns)), .im (.int (headL ns)), .no, .no, .no, .no, .no, .no, .no, .no, .no, .no, .no, .no]) (vs := [4, 5]) (g := gTup F.K 2 (gCons (gName 4) (gCons (gName 5) gNil))) (te := tTup (tCons (tCB rMin2 (tCons (tVar 4) (tCons (tC (.int 3)) tNil))) (tCons (tCB rMin2 (tCons (tVar 5) (tCons (tC (.int 3)) tNil))) tNil)))
    (wi := iTup F.K (tCall (sp_law_tables F.K F.cl) [] E0 (tCons (tCall (sp_law_cell_at F.K F.cl) [] E0 (tCons (tVar 0) (tCons (tC (.int 1)) tNil))) (tCons (tC (.int 3)) tNil)))) (tablesG (scr ns 1)) tabD (fun T => tabD (least3 T)) (ei_tup (ev_call (ea_two (ev_call (ea_two (ev_var (d := intsL ns) rfl) ev_int) ⟨(ns, 1), trivial, rfl, rfl⟩) ev_int) ⟨scr ns 1, trivial, rfl, rfl⟩)) (by omega) (clean2 (.inl rfl) (.inl rfl)) fun B' G T hT' =>
      ⟨[4, 5], _, fun k hk => hk, tg_tup (ds := [natD T.1, natD T.2]) rfl (tgs_cons tg_name (tgs_cons tg_name tgs_nil)), ev_tup (ea_two (ev_is (ev_CB (ea_two (ev_var rfl) ev_int) rc_min2) (min3 T.1)) (ev_is (ev_CB (ea_two (ev_var rfl) ev_int) rc_min2) (min3 T.2))) (sm rfl), rfl⟩
  have e1 : (tablesG (scr ns 1)).map (fun T => tabD (least3 T)) = (tabsL ns).map tabD := by
    unfold tabsL
    rw [List.map_map]
    rfl
  rw [e1] at l1
  refine wp_seq (wp_set (ev_CB (ea_one l1) (rc_tuple (.inl rfl))) ?_)
  have a1 := Int.emod_nonneg (headL ns) (b := 2) (by decide)
  have a2 := Int.emod_lt_of_pos (headL ns) (b := 2) (by decide)
  have b1 := Int.emod_nonneg (headL ns / 2) (b := 3) (by decide)
  have b2 := Int.emod_lt_of_pos (headL ns / 2) (b := 3) (by decide)
  have hmany : headL ns % 2 * (1 + headL ns / 2 % 3) = ((manyL ns : Nat) : Int) := nat_of (Int.mul_nonneg a1 (by omega))
  refine wp_seq (wp_set (ev_is (ev_op (ev_modC (ev_var (d := .int (headL ns)) rfl) (by decide)) (ev_op ev_int (ev_modC (ev_divC (ev_var (d := .int (headL ns)) rfl) (by decide) (small51 (by decide) (by decide))) (by decide)) rv_add) (rv_mulW (mulOk (small51 (by omega) (by omega)) (small51 (by omega) (by omega))))) (congrArg Dt.int hmany)) ?_)
  have l2 := ev_lcA (F := F) (ρ := [.im (intsL ns), .im (cellsL (poolL ns)), .im (.int (headL ns)), .im (tabsD (tabsL ns)), .no, .no, .im (natD (manyL ns)), .no, .no, .no, .no, .no, .no, .no, .no]) (vs := [8]) (g := gName 8) (te := tCall (sp_law_rule F.K F.cl) [] E0 (tCons (tCall (sp_law_cell_at F.K F.cl) [] E0 (tCons (tVar 0) (tCons (tOp qAdd (tC (.int 3)) (tVar 8)) tNil))) (tCons (tVar 3) (tCons (tVar 1) tNil))))
    (List.range (manyL ns)) natD (fun k => (ruleG (tabsL ns) (poolL ns) (scr ns (3 + k))).d) (ei_rng (ea_one (ev_var (k := 6) (d := natD (manyL ns)) rfl)) (by omega)) (by rw [List.length_range]; omega) (clean1 (.inl rfl)) fun B' G k hk =>
      ⟨[8], _, fun k hk => hk, tg_name, ev_call (ea_cons (ev_call (ea_two (ev_var rfl) (ev_is (ev_op (ev_int (i := 3)) (ev_var (d := natD k) rfl) rv_add) (show _ = natD (3 + k) from congrArg Dt.int (by omega)))) ⟨(ns, 3 + k), trivial, rfl, rfl⟩) (ea_two (ev_var rfl) (ev_var rfl))) ⟨(poolL ns, tabsL ns, scr ns (3 + k)), ⟨hP, hT⟩, rfl, rfl⟩, rfl⟩
  have e2 : (List.range (manyL ns)).map (fun k => (ruleG (tabsL ns) (poolL ns) (scr ns (3 + k))).d) = (rulesL ns).map Rule.d := by
    unfold rulesL
    rw [List.map_map]
    rfl
  rw [e2] at l2
  refine wp_seq (wp_set (ev_CB (ea_one l2) (rc_tuple (.inl rfl))) ?_)
  have hsl : (ns.take 63).drop 6 = ns.drop 6 := by rw [List.take_of_length_le h63]
  refine wp_seq (wp_set (ev_is (ev_sl (ev_call (ea_cons (ev_is (ev_sl (ev_var (d := intsL ns) rfl) (eo_some (ev_int (i := ((6 : Nat) : Int)))) (eo_some (ev_int (i := ((63 : Nat) : Int)))) rs_lst) (show _ = intsL ((ns.take 63).drop 6) by
      rw [cut_two]
      unfold intsL
      rw [List.map_drop, List.map_take])) (ea_cons (ev_var rfl) (ea_two (ev_var rfl) (ev_op ev_int (ev_modC (ev_divC (ev_var (d := .int (headL ns)) rfl) (by decide) (small51 (by decide) (by decide))) (by decide)) rv_add)))) ⟨(tabsL ns, poolL ns, 2 + headL ns / 6 % 6, (ns.take 63).drop 6), ⟨hT, hP, wideL ns, by show ((ns.take 63).drop 6).length < 1000; rw [List.length_drop, List.length_take]; omega⟩, rfl, rfl⟩) eo_none (eo_some (ev_int (i := ((10 : Nat) : Int)))) rs_tup) (show _ = rowsD (rowsL ns) by
      rw [cut_take]
      unfold rowsD rowsL
      rw [List.map_take])) ?_)
  refine wp_seq (wp_set (ev_call (ea_cons (ev_var rfl) (ea_two (ev_var rfl) (ev_var rfl))) ⟨bookL ns, hB, rfl, rfl⟩) ?_)
  have l3 := ev_lcA (F := F) (ρ := [.im (intsL ns), .im (cellsL (poolL ns)), .im (.int (headL ns)), .im (tabsD (tabsL ns)), .no, .no, .im (natD (manyL ns)), .im (rulesD (rulesL ns)), .no, .im (rowsD (rowsL ns)), .im (bookL ns).d, .no, .no, .no, .no]) (vs := [12]) (g := gName 12) (te := tCall (sp_mended_at F.K F.cl) [] E0 (tCons (tVar 10) (tCons (tVar 12) tNil)))
    (wi := iRng1 (tCons (tCall (sp_many_mended F.K F.cl) [] E0 (tCons (tVar 10) tNil)) tNil)) (List.range (mendedV (bookL ns)).length) natD (fun k => natsT ((mendedV (bookL ns)).getD k [])) (ei_rng (ea_one (ev_call (ea_one (ev_var (d := (bookL ns).d) rfl)) ⟨bookL ns, hB, rfl, rfl⟩)) (by omega)) (by rw [List.length_range]; omega) (clean1 (.inl rfl)) fun B' G k hk =>
      ⟨[12], _, fun k hk => hk, tg_name, ev_call (ea_two (ev_var rfl) (ev_var rfl)) ⟨(bookL ns, k, (mendedV (bookL ns)).getD k []), ⟨hB, by
        show (mendedV (bookL ns))[k]? = some ((mendedV (bookL ns)).getD k [])
        rw [List.getD_eq_getElem?_getD, List.getElem?_eq_getElem (List.mem_range.mp hk)]
        rfl⟩, rfl, rfl⟩, rfl⟩
  have e3 : (List.range (mendedV (bookL ns)).length).map (fun k => natsT ((mendedV (bookL ns)).getD k [])) = (mendedV (bookL ns)).map natsT := by
    apply List.ext_getElem?
    intro k
    rw [List.getElem?_map, List.getElem?_map]
    by_cases hk : k < (mendedV (bookL ns)).length
    · rw [List.getElem?_range hk, List.getElem?_eq_getElem hk]
      show some (natsT ((mendedV (bookL ns)).getD k [])) = some (natsT (mendedV (bookL ns))[k])
      rw [List.getD_eq_getElem?_getD, List.getElem?_eq_getElem hk]
      rfl
    · rw [List.getElem?_eq_none (by rw [List.length_range]; omega), List.getElem?_eq_none (by omega)]
      rfl
  rw [e3] at l3
  refine wp_seq (wp_set l3 ?_)
  refine wp_seq (wp_forL (List.range (tabsL ns).length) natD [13, 14] (fun _ => [.im (intsL ns), .im (cellsL (poolL ns)), .im (.int (headL ns)), .im (tabsD (tabsL ns)), .no, .no, .im (natD (manyL ns)), .im (rulesD (rulesL ns)), .no, .im (rowsD (rowsL ns)), .im (bookL ns).d, .im (setsL (mendedV (bookL ns))), .no, .no, .no]) (fun _ => True)
    (ei_rng (ea_one (ev_lenX (l := tabsL ns) (ev_var rfl))) (by have := hT.2.1; omega)) rfl trivial (fun pre t post eq _ => ⟨[13], _, tg_name, ?_⟩) fun _ => wp_ret ev_bl rfl)
  have ht : t < (tabsL ns).length := List.mem_range.mp (app_len eq).2
  obtain ⟨g1, g2, g3, g4⟩ := tab_at hT ht
  refine wp_forL (List.range ((tabsL ns).getD t (0, 0)).1) natD [14] (fun _ => [.im (intsL ns), .im (cellsL (poolL ns)), .im (.int (headL ns)), .im (tabsD (tabsL ns)), .no, .no, .im (natD (manyL ns)), .im (rulesD (rulesL ns)), .no, .im (rowsD (rowsL ns)), .im (bookL ns).d, .im (setsL (mendedV (bookL ns))), .no, .im (natD t), .no]) (fun _ => True)
    (ei_rng (ea_one (ev_at 0 (ev_ixv (ev_var rfl) (ev_var rfl) (tabs_get g1)) rfl)) (by omega)) rfl trivial (fun pre2 c post2 eq2 _ => ⟨[14], _, tg_name, ?_⟩) fun _ => ⟨trivial, rfl⟩
  have hc : c < ((tabsL ns).getD t (0, 0)).1 := List.mem_range.mp (app_len eq2).2
  refine wp_no (et_f (et_B (ev_call (ea_cons (ev_var rfl) (ea_cons (ev_var rfl) (ea_cons (ev_var rfl) (ea_two (ev_var rfl) (ev_call (ea_two (ev_divC (ev_var (d := .int (headL ns)) rfl) (by decide) (small51 (by decide) (by decide))) (ev_var rfl)) ⟨(tabsL ns, headL ns / 36), hT, rfl, rfl⟩))))) ⟨(bookL ns, t, c, idleG (tabsL ns) (headL ns / 36)), ⟨hB, ⟨_, g1, hc⟩, idle_ok hT _⟩, rfl, rfl⟩))) (wp_next ⟨trivial, rfl⟩)
end Md
namespace Md
open PySem PySem.Spec PyProof.Rows L2
theorem spI_len {C : Addr} {vs : List V} {H : Hp} {Q : VK} {E : XK} (h : spI C vs H Q E) : vs.length = 2 := by
  obtain ⟨x, dx, v, rfl, _⟩ := h
  rfl
theorem spI_read {K : PySem.W.Frag} {C : Addr} (cl : Nat → Addr) (vs : List V) (H : Hp) (Q : VK) (E : XK) (hc : Cls K C) (hn : NoAttr K C "parts") (h : spI C vs H Q E) : t_init K cl { nx := fun _ H' => Q .non H', rt := Q } (start ["self", "parts"] vs) H := by
  obtain ⟨x, dx, v, rfl, h1, h2⟩ := h
  exact ⟨v, rfl, .ref x, rfl, x, C, dx, [], rfl, h1, hc, hn, by decide, h2⟩
end Md
namespace Md
open PySem PySem.Spec PyProof.Rows L2
/-! ### a dict whose keys are rows, its values lists -/
def nkC : Cell → NestedKey
  | .z i => .num i
  | .s x => .text x
def nkRow (r : Row) : NestedKey := .tup [.num ((r.t : Nat) : Int), .tup (r.cs.map nkC)]
theorem nkC_inj : ∀ {a b : List Cell}, a.map nkC = b.map nkC → a = b
  | [], [], _ => rfl
  | [], _ :: _, h => by cases h
  | _ :: _, [], h => by cases h
  | x :: a, y :: b, h => by
    rw [List.map_cons, List.map_cons] at h
    injection h with h1 h2
    rw [nkC_inj h2]
    cases x <;> cases y
    · rw [NestedKey.num.inj h1]
    · cases h1
    · cases h1
    · rw [NestedKey.text.inj h1]
theorem nkRow_inj {a b : Row} (h : nkRow a = nkRow b) : a = b := by
  cases a
  cases b
  have h := NestedKey.tup.inj h
  simp only [List.cons.injEq, NestedKey.num.injEq, NestedKey.tup.injEq, and_true] at h
  simp only [Row.mk.injEq]
  exact ⟨by omega, nkC_inj h.2⟩
theorem cells_is {h : Heap} : ∀ {cs : List Cell} {vs : List Value} {as : List Addr}, ReadsAll h vs ((cs.map Cell.d).map Dt.py) as → NestedAll h (cs.map nkC) vs
  | [], _, _, r => by
    cases r
    exact .nil
  | c :: cs, _, _, r => by
    cases r with
    | cons h1 h2 =>
      refine .cons ?_ (cells_is h2)
      cases c with
      | z i =>
        rw [show Dt.py (Cell.d (.z i)) = .int i by rw [Cell.d, Dt.py]] at h1
        cases h1
        exact .int i _
      | s x =>
        rw [show Dt.py (Cell.d (.s x)) = .str x by rw [Cell.d, Dt.py]] at h1
        cases h1
        exact .text x _
theorem depth_cells : ∀ cs : List Cell, NestedKey.depthAll (cs.map nkC) ≤ 0
  | [] => by
    rw [List.map_nil, NestedKey.depthAll]
    exact Nat.le_refl _
  | c :: cs => by
    have h := depth_cells cs
    rw [List.map_cons, NestedKey.depthAll]
    cases c <;> simp only [nkC, NestedKey.depth] <;> omega
theorem row_py (r : Row) : r.d.py = .tuple [.int ((r.t : Nat) : Int), .tuple ((r.cs.map Cell.d).map Dt.py)] := by
  rw [Row.d, Dt.py, pys_map, List.map_cons, List.map_cons, List.map_nil, Dt.py, Dt.py, pys_map]
theorem row_is {P : Program} {w : World} {h : Heap} {r : Row} {a : Addr} {as : List Addr} (q : Reads h (.ref a) r.d.py as) : (nestedKind P w).is h (nkRow r) a := by
  rw [row_py] at q
  refine ⟨?_, ?_⟩
  · cases q with
    | tuple h1 h2 h3 h4 =>
      refine .tup h1 h2 h3 ?_
      generalize hv : (Array.toList _) = vs at h4
      cases h4 with
      | cons k1 k2 =>
        cases k1
        cases k2 with
        | cons k3 k4 =>
          cases k4
          refine .cons (.int _ _) (.cons ?_ .nil)
          cases k3 with
          | tuple m1 m2 m3 m4 => exact .tup m1 m2 m3 (cells_is m4)
  · have := depth_cells r.cs
    simp only [nkRow, NestedKey.depth, NestedKey.depthAll]
    omega
abbrev Ent := Row × Addr × Addr
def rawOf (xs : List Ent) : List (NestedKey × Addr × Value) := xs.map fun x => (nkRow x.1, x.2.1, Value.ref x.2.2)
def Nd (P : Program) (w : World) (d : Addr) (xs : List Ent) (h : Heap) : Prop := (d == sysModules) = false ∧ ∃ o es ep, h.get? d = some o ∧ o.ExactDict ∧ o.data = .dict es ep ∧ es.toList = (rawOf xs).map (entryOfKey (nestedKind P w))
def NdO (P : Program) (w : World) (d : Addr) (xs : List Ent) : HO := .ext (Nd P w d xs)
/-- the keys' own tuples -/
def KeysAt (K : PySem.W.Frag) (cl : Nat → Addr) (H : Hp) (xs : List Ent) : Prop := ∀ x ∈ xs, Rp K cl H (.ref x.2.1) x.1.d
theorem nd_ok {P : Program} {w : World} {H : Hp} {h : Heap} {d : Addr} {xs : List Ent} (n : Nd P w d xs h) : ObjOk P w H h d (NdO P w d xs) := by
  refine ⟨n, ?_, ?_⟩
  · obtain ⟨_, o, _, _, e, _⟩ := n
    exact ⟨o, e⟩
  · rintro h1 h2 ⟨g, o, es, ep, e, r⟩ k
    exact ⟨g, o, es, ep, k o e, r⟩
theorem row_plain (r : Row) : r.d.plain = true := by
  have hc : ∀ cs : List Cell, Dt.plains (cs.map Cell.d) = true := by
    intro cs
    refine plains_of fun x hx => ?_
    obtain ⟨c, _, rfl⟩ := List.mem_map.mp hx
    cases c <;> rfl
  rw [Row.d, Dt.plain]
  refine plains_of fun x hx => ?_
  rcases List.mem_cons.mp hx with e | hx
  · rw [e]
    rfl
  · rw [List.mem_singleton.mp hx, Dt.plain]
    exact hc r.cs
section
variable {X : Cx} {pins : List (Addr × Obj)} {σ : St} {H : Hp} {s : Shared} {cl : Nat → Addr} {d : Addr} {xs : List Ent}
theorem key_is (I : Inv X pins σ H s) {a : Addr} {r : Row} (k : Rp X.K cl H (.ref a) r.d) : (nestedKind X.prog X.w).is s.heap (nkRow r) a := by
  obtain ⟨as, q⟩ := Dp.reads I _ _ _ (k.dp (row_plain r)) (show RelV (.ref a) (.ref a) from rfl)
  exact row_is q
theorem nd_dict (I : Inv X pins σ H s) (n : Nd X.prog X.w d xs s.heap) (k : KeysAt X.K cl H xs) (nd : (xs.map (·.1)).Nodup) : s.heap.DictOfH (nestedKind X.prog X.w) d (rawOf xs) := by
  obtain ⟨_, o, es, ep, e1, e2, e3, e4⟩ := n
  refine ⟨o, es, ep, e1, e2, e3, e4, fun x hx => ?_, ?_⟩
  · obtain ⟨y, hy, rfl⟩ := List.mem_map.mp hx
    exact key_is I (k y hy)
  · unfold rawOf
    rw [List.map_map]
    unfold List.Nodup at nd ⊢
    rw [List.pairwise_map] at nd ⊢
    exact nd.imp fun h e => h (nkRow_inj e)
theorem at_of {r : Row} : atKey (rawOf xs) (nkRow r) = (xs.find? fun x => decide (x.1 = r)).map fun x => (x.2.1, Value.ref x.2.2) := by
  unfold atKey rawOf
  rw [List.find?_map, Option.map_map]
  have e : ((fun x : NestedKey × Addr × Value => decide (x.1 = nkRow r)) ∘ fun x : Ent => (nkRow x.1, x.2.1, Value.ref x.2.2)) = fun x => decide (x.1 = r) := by
    funext x
    exact decide_eq_decide.mpr ⟨fun h => nkRow_inj h, fun h => congrArg nkRow h⟩
  rw [e]
  rfl
/-- {} -/
def tDNewN (P : Program) (w : World) : TE := fun _ H Q => ∀ p, H p = none → Q (.ref p) (upd H p (NdO P w p []))
theorem pe_dnewN {pos : Pos} : PE X (.Dict [] [] pos) (tDNewN X.prog X.w) := ⟨fun pins s σ H Q I h =>
  wpAny_Dict_empty ⟨.ref s.heap.objs.size, _, I.laid (a := s.heap.objs.size) (o := NdO X.prog X.w s.heap.objs.size []) (t' := s.toks) (fun _ _ q => Heap.get?_push_of_some _ q) (Nat.le_refl _)
    (nd_ok ⟨beq_eq_false_iff_ne.mpr (Ne.symm (Nat.ne_of_lt I.big)), _, #[], 0, Heap.get?_push_size _ rfl, ⟨rfl, rfl, rfl⟩, rfl, rfl⟩), rfl, h _ (I.hok.fresh (Nat.le_refl _))⟩⟩
/-- d.setdefault(k, x) -/
def tSetd (P : Program) (w : World) (K : PySem.W.Frag) (cl : Nat → Addr) (td ty tx : TE) : TE := fun σ H Q => td σ H fun x H1 => ∃ d, x = .ref d ∧ (∃ xs, H1 d = some (NdO P w d xs)) ∧ ty σ H1 fun y H2 => tx σ H2 fun z H3 =>
  ∃ (xs : List Ent) (r : Row) (q l : Addr), y = .ref q ∧ z = .ref l ∧ H3 d = some (NdO P w d xs) ∧ Rp K cl H3 (.ref q) r.d ∧ KeysAt K cl H3 xs ∧ (xs.map (·.1)).Nodup ∧ xs.length ≤ 1000 ∧
    (∀ x, xs.find? (fun x => decide (x.1 = r)) = some x → Q (.ref x.2.2) H3) ∧ (xs.find? (fun x => decide (x.1 = r)) = none → Q (.ref l) (upd H3 d (NdO P w d (xs ++ [(r, q, l)]))))
theorem pe_setd {o e f : Expr} {apos cpos : Pos} {td ty tx : TE} (hu : X.A.units + 65 < cLine) (ho : PE X o td) (he : PE X e ty) (hf : PE X f tx) (m : M2 X o "setdefault" apos e f cpos) : PE X (.Call (.Attribute o "setdefault" apos) [e, f] [] cpos) (tSetd X.prog X.w X.K cl td ty tx) := by
  refine ⟨fun pins s σ H Q I h => ?_⟩
  refine wpAny_Call_method m.base m.few m.line PySem.F.plainAttrs_dict PySem.F.slot_dict_setdefault PySem.F.type_dict_setdefault (thn (ho.run pins s σ H _ I h) fun u s1 ⟨x, H1, I1, rx, a, ex, d, q1⟩ => ?_)
  subst ex
  obtain rfl : u = Value.ref a := rx
  obtain ⟨xs0, d⟩ := d
  obtain ⟨⟨_, ob, _, _, g1, g2, _⟩, _⟩ := (show ObjOk X.prog X.w H1 s1.heap a (NdO X.prog X.w a xs0) from I1.hok a _ d)
  refine ⟨⟨ob, g1, g2.1⟩, fun b q => ?_, ?_⟩
  · cases q
    exact ⟨ob, g1, g2.2.1⟩
  rw [m.trees]
  refine Calls.callWith_builtin rfl (Calls.evalArgs_plain (Calls.spliced_cons (thn (he.run pins s1 σ H1 _ I1 q1) fun iv s2 ⟨y, H2, I2, ry, q2⟩ =>
    Calls.spliced_cons (thn (hf.run pins s2 σ H2 _ I2 q2) fun fv s3 ⟨z, H3, I3, rz, q3⟩ => Calls.spliced_nil ?_))))
  obtain ⟨xs, r, q, l, rfl, rfl, hd, hq, hk, nd, hlen, k1, k2⟩ := q3
  obtain rfl : iv = Value.ref q := ry
  obtain rfl : fv = Value.ref l := rz
  obtain ⟨n, _⟩ := (show ObjOk X.prog X.w H3 s3.heap a (NdO X.prog X.w a xs) from I3.hok a _ hd)
  have hm := nd_dict I3 n hk nd
  have hz : (rawOf xs).length ≤ sizeLine := by
    unfold rawOf
    rw [List.length_map]
    exact Nat.le_trans hlen (by decide)
  refine call_setdefault_heap (knd := nestedKind X.prog X.w) (show X.A.in1.units + 8 < cLine by show X.A.units + 1 + 8 < cLine; omega) (key_is I3 hq) n.1 hm (fun p hp => ?_) (fun hn h' hm' hs => ?_) hz
  · rw [at_of] at hp
    cases hf : xs.find? fun x => decide (x.1 = r) with
    | none =>
      rw [hf] at hp
      cases hp
    | some x =>
      rw [hf] at hp
      cases hp
      exact ⟨.ref x.2.2, H3, I3.tok _, rfl, k1 x hf⟩
  · rw [storedH_new hn] at hm'
    have hf : xs.find? (fun x => decide (x.1 = r)) = none := by
      rw [at_of] at hn
      exact Option.map_eq_none_iff.mp hn
    have n' : Nd X.prog X.w a (xs ++ [(r, q, l)]) h' := by
      obtain ⟨o', es, ep, e1, e2, e3, e4, _⟩ := hm'
      refine ⟨n.1, o', es, ep, e1, e2, e3, ?_⟩
      rw [e4]
      unfold rawOf
      rw [List.map_append (l₂ := [(r, q, l)])]
      rfl
    refine ⟨.ref l, upd H3 a (NdO X.prog X.w a (xs ++ [(r, q, l)])), I3.write (e := a) (by rw [hd]; trivial) (.inl rfl) (fun b u hb hu => (hs.2 b hb).trans hu) ?_ (nd_ok n'), rfl, k2 hf⟩
    obtain ⟨_, o', _, _, e1, _⟩ := n'
    exact ⟨o', e1⟩
/-! ### its values, walked -/
def ItdN (P : Program) (w : World) (d : Addr) (o : Obj) (xs : List Ent) : It :=
  ⟨fun i H => H d = some (.frz o (NdO P w d xs)) ∧ i < xs.length, fun i H x H' => H' = H ∧ ∃ y : Ent, xs[i]? = some y ∧ x = .ref y.2.2, fun i H => H d = some (.frz o (NdO P w d xs)) ∧ i = xs.length⟩
theorem frz_nd (I : Inv X pins σ H s) {o : Obj} (h : H d = some (.frz o (NdO X.prog X.w d xs))) : s.heap.get? d = some o ∧ Nd X.prog X.w d xs s.heap := by
  obtain ⟨e, n, _⟩ := (show ObjOk X.prog X.w H s.heap d (.frz o (NdO X.prog X.w d xs)) from I.hok d _ h)
  exact ⟨e, n⟩
theorem raw_at {P : Program} {w : World} {es : Array DictEntry} (he : es.toList = (rawOf xs).map (entryOfKey (nestedKind P w))) : es.size = xs.length ∧ ∀ (i : Nat) (hi : i < es.size), ∃ y : Ent, xs[i]? = some y ∧ es[i].val = .ref y.2.2 := by
  have hs : es.size = xs.length := by
    rw [size_of_entries he]
    unfold rawOf
    rw [List.length_map]
  refine ⟨hs, fun i hi => ?_⟩
  have q := entry_at he i
  rw [Array.getElem?_eq_getElem hi] at q
  unfold rawOf at q
  rw [List.getElem?_map, List.getElem?_eq_getElem (by omega)] at q
  refine ⟨xs[i]'(by omega), List.getElem?_eq_getElem (by omega), ?_⟩
  rw [Option.some.inj q]
  rfl
theorem turn_valsN {P : Program} {w : World} {K : PySem.W.Frag} {tg : Expr} {o : Obj} {es : Array DictEntry} {ep : Nat} (it : Addr) (hod : o.data = .dict es ep) (hsz : es.size = xs.length) : Turn P w K tg (ItdN P w d o xs) [it] it (fun i h => h.IsValIter it d i es.size ep) where
  mem := by simp
  obj := fun i h st b hb => by
    have e : b = it := by simpa using hb
    subst e
    obtain ⟨oi, e, c, dd⟩ := st
    exact ⟨oi, e, fun v z => by rw [dd] at z; cases z⟩
  keep := fun i h h' st k => st.at fun oi e => k it (by simp) oi e
  item := by
    intro X hP hw hK hc i pins s σ H E I hf st hg
    subst hP hw hK
    obtain ⟨hd, hi⟩ := hg
    obtain ⟨f0, f1, f2, f3, f4, f5⟩ := hf it (by simp)
    obtain ⟨hgd, _, o', es', ep', e1, e2, e3, e4⟩ := frz_nd I hd
    rw [hgd] at e1
    cases e1
    rw [hod] at e3
    cases e3
    obtain ⟨_, hv⟩ := raw_at e4
    have hlt : i < es.size := by omega
    obtain ⟨y, hy, hval⟩ := hv i hlt
    refine wpAny_pyNext_values_item_raw st ⟨o, hgd, e2, hod⟩ hlt fun h' st' sb => ?_
    have I1 : Inv X pins σ H { s with heap := h' } := I.turned (t' := s.toks) (fun b ob hb e => (sb.2 b hb).trans e) f0 f1 f3 f4 f5
    obtain ⟨oi, e, c, dd⟩ := id st'
    refine ⟨_, rfl, go_of (s := { s with heap := h' }) e c dd (by decide) ⟨.ref y.2.2, H, I1, hval, ⟨rfl, y, hy, rfl⟩, st', fun b hb => (hf b hb).1⟩⟩
  done := by
    intro X hP hw hK hc i pins s σ H E I hf st hg
    subst hP hw hK
    obtain ⟨hd, hi⟩ := hg
    obtain ⟨f0, f1, f2, f3, f4, f5⟩ := hf it (by simp)
    obtain ⟨hgd, _, o', es', ep', e1, e2, e3, e4⟩ := frz_nd I hd
    exact wpAny_pyNext_values_end_raw (I.ok.hd hc) st ⟨o, hgd, by rw [hgd] at e1; cases e1; exact e2, hod⟩ (by omega) fun h' eb => ⟨rfl, I.turned (t' := s.toks) (fun b ob hb e => eb b ob hb e) f0 f1 f3 f4 f5⟩
  self := fun A i s Q E st h => wpAny_pyIter_valiter st h
def iValsN (P : Program) (w : World) (td : TE) : TI := fun σ H R => td σ H fun x H1 => ∃ (d : Addr) (o : Obj) (xs : List Ent), x = .ref d ∧ H1 d = some (.frz o (NdO P w d xs)) ∧ R (ItdN P w d o xs) H1
theorem pi_valuesN {tg e : Expr} {td : TE} {apos cpos : Pos} (he : PE X e td) (hbase : attributeBase e "values" X.env (eval e X.env) = eval e X.env := by rfl) (hline : (apos.endLine == cpos.line) = true := by rfl) : PI X tg (.Call (.Attribute e "values" apos) [] [] cpos) (iValsN X.prog X.w td) := by
  refine ⟨fun pins s σ H R I h => ?_⟩
  refine wpAny_Call_method (T := "dict") (id := "dict.values") hbase rfl hline F.plainAttrs_dict F.slot_dict_values F.type_dict_values (thn (he.run pins s σ H _ I h) fun u s1 ⟨x, H1, I1, rx, d, o, xs, ex, hd, q⟩ => ?_)
  subst ex
  obtain rfl : u = Value.ref d := rx
  obtain ⟨hgd, hs, o', es, ep, e1, e2, e3, e4⟩ := frz_nd I1 hd
  rw [hgd] at e1
  cases e1
  obtain ⟨hsz, _⟩ := raw_at e4
  have hraw : s1.heap.DictRaw d es ep := ⟨o, hgd, e2, e3⟩
  refine ⟨⟨o, hgd, e2.1⟩, fun b q => ?_, ?_⟩
  · cases q
    exact ⟨o, hgd, e2.2.1⟩
  have I2 : Inv X pins σ H1 { s1 with heap := s1.heap.push { cls := .type "dict_values", data := .fields #[.ref d] } } := I1.kept (t' := s1.toks) fun b ob q => Heap.get?_push_of_some _ q
  have fin : wpAny (model X.prog X.w) X.A (pyIter (.ref s1.heap.objs.size)) (PIE X pins σ tg R) X.xe { s1 with heap := s1.heap.push { cls := .type "dict_values", data := .fields #[.ref d] } } :=
    wpAny_pyIter_values_raw (d := d) ⟨_, Heap.get?_push_size _ rfl, rfl, rfl⟩ (hraw.at fun ob q => Heap.get?_push_of_some _ q) (pi_one (tk := s1.toks) I2 _ (turn_valsN _ e3 hsz) ⟨_, Heap.get?_push_size _ rfl, rfl, rfl⟩ q)
  show wpAny _ _ (callWith cpos (.builtin "dict.values") [.ref d] [] []) _ X.xe s1
  exact method_meetsIn F.slot_dict_values F.entry_dict_values rfl (PySem.evalArgs_none ⟨rfl, ⟨o, hgd, e2.1⟩, F.args_dict_values_1 _, _, meets_dict_values_raw d hs, ⟨⟨es, ep, hraw⟩, fin⟩⟩)
end
end Md
namespace Md
open PySem PySem.Spec PyProof.Rows L2
open Evl (Ex ex_l ex_t sz_of sz_lt fresh_back)
/-! ### blocks: the reading, the loop -/
def t_blocks (P : Program) (w : World) (K : PySem.W.Frag) (cl : Nat → Addr) : TS :=
  tSeq (tDrop (tCall (sp_check_plain K cl) [] E0 (tCons (tVar 0) tNil))) (tSeq (tAsg (tDNewN P w) (gName 1))
    (tSeq (tFor (iEnumT K (tCons (tOp (rIxT K) (tVar 0) (tC (.int 2))) tNil)) (gTup K 2 (gCons (gName 2) (gCons (gName 3) gNil)))
      (tDrop (tBM K "list" rAppend (tSetd P w K cl (tVar 1) (tCall (sp_key_of K cl) [] E0 (tCons (tVar 0) (tCons (tVar 3) tNil))) (tLst tNil)) (tCons (tVar 2) tNil))))
      (tLock (tRet (tLc (iValsN P w (tVar 1)) (gName 4) tYes (tCB (rList K) (tCons (tVar 4) tNil)) [4])))))
def natV (i : Nat) : V := .int ((i : Nat) : Int)
theorem natV_rp {K : PySem.W.Frag} {cl : Nat → Addr} {H : Hp} : ∀ l : List Nat, RpA K cl H (l.map natV) (l.map natD)
  | [] => .nil
  | i :: l => .cons (.int _) (natV_rp l)
theorem inj_of {α β : Type} {f : α → β} : ∀ {xs : List α}, (xs.map f).Nodup → ∀ a ∈ xs, ∀ b ∈ xs, f a = f b → a = b
  | x :: xs, h, a, ha, b, hb, e => by
    rw [List.map_cons, List.nodup_cons] at h
    rcases List.mem_cons.mp ha with ha | ha <;> rcases List.mem_cons.mp hb with hb | hb
    · rw [ha, hb]
    · rw [ha] at e
      exact absurd (List.mem_map.mpr ⟨b, hb, e.symm⟩) h.1
    · rw [hb] at e
      exact absurd (List.mem_map.mpr ⟨a, ha, e⟩) h.1
    · exact inj_of h.2 a ha b hb e
theorem paired_mapL {α β γ : Type} {R : α → β → Prop} {f : α → γ} {g : β → γ} (h : ∀ a b, R a b → f a = g b) : ∀ {l : List α} {m : List β}, Paired R l m → l.map f = m.map g
  | _, _, .nil => rfl
  | _, _, .cons r t => by rw [List.map_cons, List.map_cons, h _ _ r, paired_mapL h t]
theorem paired_mem {α β : Type} {R : α → β → Prop} : ∀ {l : List α} {m : List β}, Paired R l m → ∀ a ∈ l, ∃ b ∈ m, R a b
  | _, _, .cons r t, a, ha => by
    rcases List.mem_cons.mp ha with e | ha
    · rw [e]
      exact ⟨_, List.mem_cons_self, r⟩
    · obtain ⟨b, hb, h⟩ := paired_mem t a ha
      exact ⟨b, List.mem_cons_of_mem _ hb, h⟩
theorem paired_imp {α β γ : Type} {R : α → β → Prop} {S : α → γ → Prop} {g : β → γ} : ∀ {l : List α} {m : List β}, Paired R l m → (∀ a ∈ l, ∀ b ∈ m, R a b → S a (g b)) → Paired S l (m.map g)
  | _, _, .nil, _ => .nil
  | _, _, .cons r t, h => .cons (h _ List.mem_cons_self _ List.mem_cons_self r) (paired_imp t fun a ha b hb => h a (List.mem_cons_of_mem _ ha) b (List.mem_cons_of_mem _ hb))
theorem paired_id {α β : Type} {R S : α → β → Prop} {l : List α} {m : List β} (p : Paired R l m) (h : ∀ a ∈ l, ∀ b ∈ m, R a b → S a b) : Paired S l m := by
  have z := paired_imp (S := S) (g := id) p h
  rwa [List.map_id] at z
def Pl (ρ : Ro) : Prop := ∀ i : Nat, (∀ m, ρ[i]? ≠ some (.ow m)) ∧ ∀ s, ρ[i]? ≠ some (.pm s)
section
variable {F F2 : Fx} {O O' : Addr → Bool} {H H' : Hp} {σ : St} {ρ : Ro} {P : Program} {w : World} {p : Addr} {bl : List (Row × List Nat)} {xs : List Ent} {B : Book}
theorem Rel.over (R : Rel F2 O H σ ρ) (hK : F2.K = F.K) (hc : F2.cl = F.cl) (pl : Pl ρ) (v : Vs O H O' H') (sub : ∀ a, F.B a = true → O' a = true) (al : Al O' H') (mb : ∀ a, F.M = some a → F.B a = true)
    (fr : ∀ a, O' a = true → F.B a = false → F.H0 a = none) (kp : ∀ a o, F.H0 a = some o → F.M ≠ some a → H' a = some o) : Rel F O' H' σ ρ where
  len := R.len
  sub := sub
  al := al
  mb := mb
  fr := fr
  kp := kp
  im := fun i d h => by
    obtain ⟨x, h1, h2⟩ := R.im i d h
    rw [hK, hc] at h2
    exact ⟨x, h1, h2.mono v⟩
  ow := fun i m h => absurd h ((pl i).1 m)
  pm := fun i s h => absurd h ((pl i).2 s)
  sep := fun i j m m' a h => absurd h ((pl i).1 m)
def ρB (B : Book) : Ro := [.im B.d, .no, .no, .no, .no]
theorem plB (B : Book) (a b c e : Sl) (ha : a = .no ∨ ∃ d, a = .im d) (hb : b = .no ∨ ∃ d, b = .im d) (hc : c = .no ∨ ∃ d, c = .im d) (he : e = .no ∨ ∃ d, e = .im d) : Pl [.im B.d, a, b, c, e] := fun i => by
  match i with
  | 0 => exact clean_im (.inr ⟨_, rfl⟩)
  | 1 => exact clean_im (ha.imp (congrArg some) fun ⟨d, h⟩ => ⟨d, congrArg some h⟩)
  | 2 => exact clean_im (hb.imp (congrArg some) fun ⟨d, h⟩ => ⟨d, congrArg some h⟩)
  | 3 => exact clean_im (hc.imp (congrArg some) fun ⟨d, h⟩ => ⟨d, congrArg some h⟩)
  | 4 => exact clean_im (he.imp (congrArg some) fun ⟨d, h⟩ => ⟨d, congrArg some h⟩)
  | n + 5 => exact ⟨(fun m z => by cases z), fun s z => by cases z⟩
/-- where the loop stands -/
structure BI (F : Fx) (P : Program) (w : World) (B : Book) (p : Addr) (bl : List (Row × List Nat)) (O : Addr → Bool) (σ : St) (H : Hp) (xs : List Ent) : Prop where
  rel : Rel F O H σ (ρB B)
  s1 : σ[1]? = some (some (.ref p))
  op : O p = true
  bp : F.B p = false
  dict : H p = some (NdO P w p xs)
  keys : KeysAt F.K F.cl (hide O H) xs
  par : Paired (fun (x : Ent) (b : Row × List Nat) => x.1 = b.1 ∧ O x.2.2 = true ∧ F.B x.2.2 = false ∧ x.2.2 ≠ p ∧ H x.2.2 = some (.lst (b.2.map natV))) xs bl
  nd : (xs.map (·.2.2)).Nodup
theorem BI.fst (b : BI F P w B p bl O σ H xs) : xs.map (·.1) = bl.map (·.1) := paired_mapL (fun _ _ h => h.1) b.par
/-- the heap at its own places, kept -/
def keepAt (F : Fx) (p : Addr) (xs : List Ent) (H : Hp) : Hp := fun a => if a = p ∨ a ∈ xs.map (·.2.2) then H a else F.H0 a
def markAt (F : Fx) (p : Addr) (xs : List Ent) : Addr → Bool := fun a => F.B a || decide (a = p ∨ a ∈ xs.map (·.2.2))
theorem BI.pinned (b : BI F P w B p bl O σ H xs) {σ2 : St} {ρ2 : Ro} {H2 : Hp} (e : Ex H H2) (R : Rel F O H2 σ2 ρ2) (pl : Pl ρ2) : Rel (pin F (markAt F p xs) (keepAt F p xs H)) O H2 σ2 ρ2 := by
  have hx : ∀ a, a ∈ xs.map (·.2.2) → O a = true := fun a ha => by
    obtain ⟨x, hx, rfl⟩ := List.mem_map.mp ha
    obtain ⟨_, _, h⟩ := paired_mem b.par x hx
    exact h.2.1
  refine R.turn (fun a h => ?_) (fun a h => ?_) (fun i m a h => absurd h ((pl i).1 m)) (fun a h g => ?_) fun a o h n => ?_
  · show (F.B a || _) = true
    rw [R.mb a h]
    rfl
  · have h : (F.B a || decide (a = p ∨ a ∈ xs.map (·.2.2))) = true := h
    rw [Bool.or_eq_true, decide_eq_true_iff] at h
    rcases h with h | h | h
    · exact R.sub a h
    · rw [h]
      exact b.op
    · exact hx a h
  · have g : (F.B a || decide (a = p ∨ a ∈ xs.map (·.2.2))) = false := g
    rw [Bool.or_eq_false_iff, decide_eq_false_iff_not] at g
    show (if a = p ∨ a ∈ xs.map (·.2.2) then H a else F.H0 a) = none
    rw [if_neg g.2]
    exact R.fr a h g.1
  · have h : (if a = p ∨ a ∈ xs.map (·.2.2) then H a else F.H0 a) = some o := h
    split at h
    · exact e a o h
    · exact R.kp a o h n
theorem blocks_step (b : BI F P w B p bl O σ H xs) {σ2 : St} {H2 : Hp} {i : Nat} {r : Row} (e : Ex H H2) (R2 : Rel F O H2 σ2 [.im B.d, .no, .im (natD i), .im r.d, .no]) (s1 : σ2[1]? = some (some (.ref p))) (hb : (bl.map (·.1)).Nodup) (hlen : bl.length ≤ 1000) (hls : ∀ kv ∈ bl, kv.2.length ≤ 1000) (ht : r.t < B.tabs.length)
    {N : St → Hp → Prop} (hN : ∀ O' H' xs', BI F P w B p (blockPut bl (keyOf B.tabs r) i) O' σ2 H' xs' → Vs O H O' H' → N σ2 H') :
    (tBM F.K "list" rAppend (tSetd P w F.K F.cl (tVar 1) (tCall (sp_key_of F.K F.cl) [] E0 (tCons (tVar 0) (tCons (tVar 3) tNil))) (tLst tNil)) (tCons (tVar 2) tNil)) σ2 H2 fun _ H' => N σ2 H' := by
  have pl : Pl [.im B.d, .no, .im (natD i), .im r.d, .no] := plB B _ _ _ _ (.inl rfl) (.inr ⟨_, rfl⟩) (.inr ⟨_, rfl⟩) (.inl rfl)
  obtain ⟨v2, e2, r2⟩ := R2.im 2 (natD i) rfl
  have ev2 : v2 = natV i := by
    cases r2
    rfl
  subst ev2
  have hM : F.M ≠ some p := fun z => by
    have := R2.mb p z
    rw [b.bp] at this
    cases this
  have n1 : (xs.map (·.1)).Nodup := by
    rw [b.fst]
    exact hb
  have hxl : xs.length = bl.length := Paired.length b.par
  refine ⟨_, s1, p, rfl, ⟨xs, e _ _ b.dict⟩, ?_⟩
  have R3 := b.pinned e R2 pl
  have ev : Ev (pin F (markAt F p xs) (keepAt F p xs H)) (tCall (sp_key_of F.K F.cl) [] E0 (tCons (tVar 0) (tCons (tVar 3) tNil))) [.im B.d, .no, .im (natD i), .im r.d, .no] (keyOf B.tabs r).d [.im B.d, .no, .im (natD i), .im r.d, .no] := ev_call (ea_two (ev_var rfl) (ev_var rfl)) ⟨(B, r), ht, rfl, rfl⟩
  refine ev O σ2 H2 R3 _ fun y O3 H3 l3 k3 R3' ry => ⟨sz_of (by decide), fun l hl => ?_⟩
  have vs3 : Vs O H O3 H3 := (hide_exx O e).trans (k3.vs l3)
  have mk : ∀ a, (a = p ∨ a ∈ xs.map (·.2.2)) → O3 a = true ∧ ∀ o, H a = some o → F.M ≠ some a → H3 a = some o := fun a ha => by
    refine ⟨R3'.sub a ?_, fun o ho hm => R3'.kp a o ?_ hm⟩
    · show (F.B a || decide (a = p ∨ a ∈ xs.map (·.2.2))) = true
      rw [decide_eq_true ha, Bool.or_true]
    · show (if a = p ∨ a ∈ xs.map (·.2.2) then H a else F.H0 a) = some o
      rw [if_pos ha]
      exact ho
  have op3 := (mk p (.inl rfl)).1
  have dict3 := (mk p (.inl rfl)).2 _ b.dict hM
  have lst3 : ∀ x ∈ xs, ∀ kv : Row × List Nat, x.1 = kv.1 ∧ O x.2.2 = true ∧ F.B x.2.2 = false ∧ x.2.2 ≠ p ∧ H x.2.2 = some (.lst (kv.2.map natV)) → O3 x.2.2 = true ∧ H3 x.2.2 = some (.lst (kv.2.map natV)) := fun x hx kv h => by
    have z := mk x.2.2 (.inr (List.mem_map.mpr ⟨x, hx, rfl⟩))
    refine ⟨z.1, z.2 _ h.2.2.2.2 fun q => ?_⟩
    have := R2.mb _ q
    rw [h.2.2.1] at this
    cases this
  have R3f : Rel F O3 H3 σ2 [.im B.d, .no, .im (natD i), .im r.d, .no] := by
    refine R3'.over rfl rfl pl (Vs.refl _ _) (fun a h => R3'.sub a ?_) R3'.al R2.mb (fun a h g => R2.fr a (l3 a h) g) fun a o h n => R3'.kp a o ?_ n
    · show (F.B a || _) = true
      rw [h]
      rfl
    · show (if a = p ∨ a ∈ xs.map (·.2.2) then H a else F.H0 a) = some o
      split
      · exact b.rel.kp a o h n
      · exact h
  have pnl : p ≠ l := ne_of_none dict3 hl
  have xnl : ∀ x ∈ xs, x.2.2 ≠ l := fun x hx => by
    obtain ⟨kv, _, h⟩ := paired_mem b.par x hx
    exact ne_of_none (lst3 x hx kv h).2 hl
  cases ry with
  | @tup q ts _ hq hts =>
    have hkey : Rp F.K F.cl (hide O3 H3) (.ref q) (keyOf B.tabs r).d := .tup hq hts
    have keys3 : KeysAt F.K F.cl (hide O3 H3) xs := fun x hx => (b.keys x hx).mono vs3
    refine ⟨xs, keyOf B.tabs r, q, l, rfl, rfl, by rw [upd_ne pnl]; exact dict3, (hkey.mono (hide_ex O3 H3)).mono (Ex.new hl), fun x hx => ((keys3 x hx).mono (hide_ex O3 H3)).mono (Ex.new hl), n1, by omega, fun x hf => ?_, fun hf => ?_⟩
    · have hx : x ∈ xs := List.mem_of_find?_eq_some hf
      have hk : x.1 = keyOf B.tabs r := of_decide_eq_true (by have z := List.find?_some hf; exact z)
      obtain ⟨bb, hbb, hR⟩ := paired_mem b.par x hx
      obtain ⟨o3, h3⟩ := lst3 x hx bb hR
      have h4 : upd H3 l (.lst []) x.2.2 = some (.lst (bb.2.map natV)) := by
        rw [upd_ne (xnl x hx)]
        exact h3
      have v4 : Vs O3 H3 O3 (upd (upd H3 l (.lst [])) x.2.2 (.lst (bb.2.map natV ++ [natV i]))) := (hide_exx O3 (Ex.new hl)).trans (Vs.wr o3)
      refine ⟨.inl ⟨rfl, _, .inl (.inl h4)⟩, _, e2, x.2.2, bb.2.map natV, natV i, rfl, rfl, h4, sz_lt (by rw [List.length_map]; have := hls bb hbb; omega), hN O3 _ xs ?_ (vs3.trans v4)⟩
      have hput : blockPut bl (keyOf B.tabs r) i = bl.map fun kv => if kv.1 = keyOf B.tabs r then (kv.1, kv.2 ++ [i]) else kv := if_pos (List.any_eq_true.mpr ⟨bb, hbb, decide_eq_true (hR.1.symm.trans hk)⟩)
      refine ⟨?_, s1, op3, b.bp, ?_, fun y hy => (keys3 y hy).mono v4, ?_, b.nd⟩
      · have z : Rel F O3 (upd (upd H3 l (.lst [])) x.2.2 (.lst (bb.2.map natV ++ [natV i]))) σ2 [.im B.d, .no, .im (natD i), .im r.d, .no] := by
          refine R3f.over rfl rfl pl v4 R3f.sub (fun a h => ?_) R3f.mb R3f.fr fun a o h n => ?_
          · by_cases ha : a = x.2.2
            · rw [ha, upd_same]
              exact ⟨(fun z => by cases z), fun _ z => by cases z⟩
            · rw [upd_ne ha]
              by_cases hal : a = l
              · rw [hal, upd_same]
                exact ⟨(fun z => by cases z), fun _ z => by cases z⟩
              · rw [upd_ne hal]
                exact R3f.al a h
          · have ha : a ≠ x.2.2 := fun z => by
              rw [z, R3f.fr _ o3 hR.2.2.1] at h
              cases h
            have h' := R3f.kp a o h n
            rw [upd_ne ha, upd_ne (ne_of_none h' hl)]
            exact h'
        exact z.forget [2, 3]
      · rw [upd_ne (Ne.symm hR.2.2.2.1), upd_ne pnl]
        exact dict3
      · rw [hput]
        refine paired_imp b.par fun y hy c hc hRy => ?_
        obtain ⟨y3, hy3⟩ := lst3 y hy c hRy
        by_cases hck : c.1 = keyOf B.tabs r
        · have exy : y = x := inj_of n1 y hy x hx (hRy.1.trans (hck.trans hk.symm))
          have ecb : c = bb := inj_of hb c hc bb hbb (hck.trans (hk.symm.trans hR.1))
          rw [if_pos hck, exy, ecb]
          refine ⟨hR.1, o3, hR.2.2.1, hR.2.2.2.1, ?_⟩
          rw [upd_same]
          show some (HO.lst _) = some (HO.lst ((bb.2 ++ [i]).map natV))
          rw [List.map_append]
          rfl
        · have hne : y.2.2 ≠ x.2.2 := fun z => hck (by
            have exy : y = x := inj_of b.nd y hy x hx z
            rw [← hRy.1, exy]
            exact hk)
          rw [if_neg hck]
          refine ⟨hRy.1, y3, hRy.2.2.1, hRy.2.2.2.1, ?_⟩
          rw [upd_ne hne, upd_ne (xnl y hy)]
          exact hy3
    · have h4 : upd (upd H3 l (.lst [])) p (NdO P w p (xs ++ [(keyOf B.tabs r, q, l)])) l = some (.lst []) := by
        rw [upd_ne (Ne.symm pnl), upd_same]
      have v4 : Vs O3 H3 (plus O3 l) (upd (upd (upd H3 l (.lst [])) p (NdO P w p (xs ++ [(keyOf B.tabs r, q, l)]))) l (.lst ([] ++ [natV i]))) := fun a o h => by
        obtain ⟨g1, g2⟩ := hide_at.mp h
        have n1 : a ≠ l := ne_of_none g2 hl
        have n2 : a ≠ p := fun z => by
          rw [z, op3] at g1
          cases g1
        exact hide_at.mpr ⟨plus_no.mpr ⟨g1, n1⟩, by rw [upd_ne n1, upd_ne n2, upd_ne n1]; exact g2⟩
      refine ⟨.inl ⟨rfl, _, .inl (.inl h4)⟩, _, e2, l, [], natV i, rfl, rfl, h4, sz_lt (by decide), hN (plus O3 l) _ (xs ++ [(keyOf B.tabs r, q, l)]) ?_ (vs3.trans v4)⟩
      have hput : blockPut bl (keyOf B.tabs r) i = bl ++ [(keyOf B.tabs r, [i])] := by
        refine if_neg fun z => ?_
        obtain ⟨kv, hkv, e⟩ := List.any_eq_true.mp z
        have hm : kv.1 ∈ xs.map (·.1) := by
          rw [b.fst]
          exact List.mem_map.mpr ⟨kv, hkv, rfl⟩
        obtain ⟨x, hx, ex⟩ := List.mem_map.mp hm
        exact List.find?_eq_none.mp hf x hx (decide_eq_true (ex.trans (of_decide_eq_true e)))
      refine ⟨?_, s1, plus_at.mpr (.inl op3), b.bp, ?_, fun y hy => ?_, ?_, ?_⟩
      · have z : Rel F (plus O3 l) (upd (upd (upd H3 l (.lst [])) p (NdO P w p (xs ++ [(keyOf B.tabs r, q, l)]))) l (.lst ([] ++ [natV i]))) σ2 [.im B.d, .no, .im (natD i), .im r.d, .no] := by
          refine R3f.over rfl rfl pl v4 (fun a h => plus_at.mpr (.inl (R3f.sub a h))) (fun a h => ?_) R3f.mb (fun a h g => ?_) fun a o h n => ?_
          · by_cases hal : a = l
            · rw [hal, upd_same]
              exact ⟨(fun z => by cases z), fun _ z => by cases z⟩
            · rw [upd_ne hal]
              by_cases hap : a = p
              · rw [hap, upd_same]
                exact ⟨(fun z => by cases z), fun _ z => by cases z⟩
              · rw [upd_ne hap, upd_ne hal]
                exact R3f.al a ((plus_at.mp h).resolve_right hal)
          · rcases plus_at.mp h with h | h
            · exact R3f.fr a h g
            · rw [h]
              exact R3f.new0 hl
          · have h' := R3f.kp a o h n
            have n1 : a ≠ l := ne_of_none h' hl
            have n2 : a ≠ p := fun z => by
              rw [z, R3f.fr p op3 b.bp] at h
              cases h
            rw [upd_ne n1, upd_ne n2, upd_ne n1]
            exact h'
        exact z.forget [2, 3]
      · rw [upd_ne pnl, upd_same]
      · rcases List.mem_append.mp hy with hy | hy
        · exact (keys3 y hy).mono v4
        · rw [List.mem_singleton.mp hy]
          exact hkey.mono v4
      · rw [hput]
        refine paired_snoc (paired_id b.par fun y hy c hc hRy => ?_) ⟨rfl, plus_at.mpr (.inr rfl), R3f.newB hl, Ne.symm pnl, by rw [upd_same]; rfl⟩
        obtain ⟨y3, hy3⟩ := lst3 y hy c hRy
        refine ⟨hRy.1, plus_at.mpr (.inl y3), hRy.2.2.1, hRy.2.2.2.1, ?_⟩
        rw [upd_ne (xnl y hy), upd_ne hRy.2.2.2.1, upd_ne (xnl y hy)]
        exact hy3
      · rw [List.map_append, List.nodup_append]
        refine ⟨b.nd, List.pairwise_singleton _ _, fun a ha c hc z => ?_⟩
        obtain ⟨x, hx, rfl⟩ := List.mem_map.mp ha
        exact xnl x hx (z.trans (List.mem_singleton.mp hc))
end
end Md
namespace Md
open PySem PySem.Spec PyProof.Rows L2
open Evl (Ex ex_l ex_t sz_of sz_lt fresh_back)
section
variable {F : Fx} {O O' : Addr → Bool} {H H' : Hp} {σ : St} {ρ : Ro} {P : Program} {w : World} {p : Addr} {bl : List (Row × List Nat)} {xs : List Ent} {B : Book}
/-- a slot that says nothing is written -/
theorem Rel.blank (R : Rel F O H σ ρ) {i : Nat} {x : Option V} (h : ρ[i]? = some .no) : Rel F O H (σ.set i x) ρ where
  len := by rw [List.length_set, R.len]
  sub := R.sub
  al := R.al
  mb := R.mb
  fr := R.fr
  kp := R.kp
  im := fun j d hj => by
    have ne : i ≠ j := fun z => by
      rw [z, hj] at h
      cases h
    rw [List.getElem?_set_ne ne]
    exact R.im j d hj
  ow := fun j m hj => by
    have ne : i ≠ j := fun z => by
      rw [z, hj] at h
      cases h
    rw [List.getElem?_set_ne ne]
    exact R.ow j m hj
  pm := fun j m hj => by
    have ne : i ≠ j := fun z => by
      rw [z, hj] at h
      cases h
    rw [List.getElem?_set_ne ne]
    exact R.pm j m hj
  sep := fun j k m m' a hj hk h1 h2 => by
    have n1 : i ≠ j := fun z => by
      rw [z, hj] at h
      cases h
    have n2 : i ≠ k := fun z => by
      rw [z, hk] at h
      cases h
    rw [List.getElem?_set_ne n1] at h1
    rw [List.getElem?_set_ne n2] at h2
    exact R.sep j k m m' a hj hk h1 h2
theorem BI.notM (b : BI F P w B p bl O σ H xs) {a : Addr} (h : F.B a = false) : F.M ≠ some a := fun z => by
  have := b.rel.mb a z
  rw [h] at this
  cases this
theorem BI.mem (b : BI F P w B p bl O σ H xs) {x : Ent} (hx : x ∈ xs) : ∃ l : List Nat, O x.2.2 = true ∧ F.B x.2.2 = false ∧ x.2.2 ≠ p ∧ H x.2.2 = some (.lst (l.map natV)) := by
  obtain ⟨kv, _, _, h⟩ := paired_mem b.par x hx
  exact ⟨kv.2, h⟩
theorem BI.move (b : BI F P w B p bl O σ H xs) (l : Le O' O) (k : Vk O H H') (R : Rel (pin F (markAt F p xs) (keepAt F p xs H)) O' H' σ (ρB B)) : BI F P w B p bl O' σ H' xs := by
  have mk : ∀ a, (a = p ∨ a ∈ xs.map (·.2.2)) → O' a = true ∧ ∀ o, H a = some o → F.M ≠ some a → H' a = some o := fun a ha => by
    refine ⟨R.sub a ?_, fun o ho hm => R.kp a o ?_ hm⟩
    · show (F.B a || decide (a = p ∨ a ∈ xs.map (·.2.2))) = true
      rw [decide_eq_true ha, Bool.or_true]
    · show (if a = p ∨ a ∈ xs.map (·.2.2) then H a else F.H0 a) = some o
      rw [if_pos ha]
      exact ho
  have R' : Rel F O' H' σ (ρB B) := by
    refine R.over rfl rfl (plB B _ _ _ _ (.inl rfl) (.inl rfl) (.inl rfl) (.inl rfl)) (Vs.refl _ _) (fun a h => R.sub a ?_) R.al b.rel.mb (fun a h g => b.rel.fr a (l a h) g) fun a o h n => R.kp a o ?_ n
    · show (F.B a || _) = true
      rw [h]
      rfl
    · show (if a = p ∨ a ∈ xs.map (·.2.2) then H a else F.H0 a) = some o
      split
      · exact b.rel.kp a o h n
      · exact h
  refine ⟨R', b.s1, (mk p (.inl rfl)).1, b.bp, (mk p (.inl rfl)).2 _ b.dict (b.notM b.bp), fun x hx => (b.keys x hx).mono (k.vs l), ?_, b.nd⟩
  refine paired_id b.par fun x hx kv _ h => ?_
  have z := mk x.2.2 (.inr (List.mem_map.mpr ⟨x, hx, rfl⟩))
  exact ⟨h.1, z.1, h.2.2.1, h.2.2.2.1, z.2 _ h.2.2.2.2 (b.notM h.2.2.1)⟩
theorem blocksTo_len : ∀ (qs : List (Row × Nat)) (l : List (Row × List Nat)), (blocksTo qs l).length ≤ l.length + qs.length
  | [], l => Nat.le_refl _
  | q :: qs, l => by
    have h1 : (blocksTo (q :: qs) l).length ≤ _ := blocksTo_len qs (blockPut l q.1 q.2)
    have h2 : ((blockPut l q.1 q.2).map (·.1)).length ≤ (l.map (·.1)).length + 1 := by
      rw [put_keys]
      exact putS_len
    rw [List.length_map, List.length_map] at h2
    rw [List.length_cons]
    omega
theorem keyed_at {tabs : List Tab} {rows : List Row} {i : Nat} {r : Row} (h : rows[i]? = some r) : (keyed tabs rows)[i]? = some (keyOf tabs r, i) := by
  unfold keyed
  rw [List.getElem?_map, List.getElem?_zipIdx, h, Nat.zero_add]
  rfl
theorem to_next {qs : List (Row × Nat)} {i : Nat} {q : Row × Nat} (h : qs[i]? = some q) : blocksTo (qs.take (i + 1)) [] = blockPut (blocksTo (qs.take i) []) q.1 q.2 := by
  rw [List.take_add_one, h]
  unfold blocksTo
  rw [List.foldl_append]
  rfl
theorem to_ok (qs : List (Row × Nat)) : ((blocksTo qs []).map (·.1)).Nodup ∧ ∀ kv ∈ blocksTo qs [], kv.2.length ≤ qs.length := by
  obtain ⟨h1, h2, _⟩ := blocks_inv qs [] [] List.Pairwise.nil (fun kv h => nomatch h) fun k => ⟨(fun h => nomatch h), fun ⟨q, hq, _⟩ => nomatch hq⟩
  refine ⟨h1, fun kv hk => ?_⟩
  rw [(h2 kv hk).1]
  unfold placesOf
  rw [List.length_map, List.nil_append]
  exact List.length_filter_le _ _
/-- a list stays a list where one dict changes -/
theorem sq_frz {K : PySem.W.Frag} {G G' : Hp} {p a : Addr} {od : Obj} {xs : List Ent} {ys : List V} (h : ∀ b o, G b = some o → b ≠ p → G' b = some o) (hp : G p = some (.frz od (NdO P w p xs))) (s : SqL K G a ys) : SqL K G' a ys := by
  rcases s with (h1 | ⟨od', h1⟩) | s
  · exact .inl (.inl (h a _ h1 fun z => by
      rw [z, hp] at h1
      cases h1))
  · exact .inl (.inr ⟨od', h a _ h1 fun z => by
      rw [z, hp] at h1
      cases h1⟩)
  · exact .inr s
theorem nats_any {K : PySem.W.Frag} {cl : Nat → Addr} {G G' : Hp} : ∀ {l : List Nat} {vs : List V}, RpA K cl G vs (l.map natD) → RpA K cl G' vs (l.map natD)
  | [], _, r => by
    cases r
    exact .nil
  | i :: l, _, r => by
    obtain ⟨v, w, e, r1, r2⟩ := r.cons_inv
    subst e
    cases r1
    exact .cons (.int _) (nats_any r2)
theorem lists_frz {K : PySem.W.Frag} {cl : Nat → Addr} {G G' : Hp} {p : Addr} {od : Obj} {xs : List Ent} (h : ∀ b o, G b = some o → b ≠ p → G' b = some o) (hp : G p = some (.frz od (NdO P w p xs))) : ∀ {l : List (Row × List Nat)} {vs : List V},
    RpA K cl G vs (l.map fun kv => natsL kv.2) → RpA K cl G' vs (l.map fun kv => natsL kv.2)
  | [], _, r => by
    cases r
    exact .nil
  | kv :: l, _, r => by
    obtain ⟨v, w, e, r1, r2⟩ := r.cons_inv
    subst e
    refine .cons ?_ (lists_frz h hp r2)
    cases r1 with
    | lst hs ha => exact .lst (sq_frz h hp hs) (nats_any ha)
/-- the walk of the values, at one heap -/
def tiAt (P : Program) (w : World) (p : Addr) (od : Obj) (xs : List Ent) (σ2 : St) (H7 : Hp) : TI := fun σ H R => σ = σ2 ∧ H = H7 → R (ItdN P w p od xs) H7
theorem tLc_at {g : TG} {tt : TT} {te : TE} {vs : List Nat} {H7 : Hp} {od : Obj} {Q : VK} (h1 : σ[1]? = some (some (.ref p))) (h2 : H7 p = some (.frz od (NdO P w p xs))) (h : tLc (tiAt P w p od xs σ H7) g tt te vs σ H7 Q) : tLc (iValsN P w (tVar 1)) g tt te vs σ H7 Q :=
  ⟨_, h1, p, od, xs, rfl, h2, h ⟨rfl, rfl⟩⟩
theorem ei_at {O7 : Addr → Bool} {H7 : Hp} {od : Obj} (R7 : Rel F O7 H7 σ ρ) (pl : Pl ρ) (op : O7 p = false) (h2 : H7 p = some (.frz od (NdO P w p xs)))
    (hx : Paired (fun (x : Ent) (b : Row × List Nat) => O7 x.2.2 = false ∧ H7 x.2.2 = some (.lst (b.2.map natV))) xs bl) : EvI F (tiAt P w p od xs σ H7) ρ (bl.map fun kv => natsL kv.2) ρ := fun O σ' H R Q q => by
  rintro ⟨rfl, rfl⟩
  have le : Le (fun a => O a && O7 a) O7 := fun a h => by
    have h : (O a && O7 a) = true := h
    rw [Bool.and_eq_true] at h
    exact h.2
  have leO : Le (fun a => O a && O7 a) O := fun a h => by
    have h : (O a && O7 a) = true := h
    rw [Bool.and_eq_true] at h
    exact h.1
  have R' : Rel F (fun a => O a && O7 a) H σ' ρ := R7.over rfl rfl pl ((Vk.refl _ _).vs le) (fun a h => by
    show (O a && O7 a) = true
    rw [R.sub a h, R7.sub a h]
    rfl) (fun a h => R7.al a (le a h)) R7.mb (fun a h => R7.fr a (le a h)) R7.kp
  refine q _ _ H leO (Vk.refl _ _) R' fun F2 O2 H2 σ2 ρ2 _ _ vs R2 _ => ?_
  have see : ∀ a o, O7 a = false → H a = some o → hide O2 H2 a = some o := fun a o h1 h2 => vs a o (hide_at.mpr ⟨le.no h1, h2⟩)
  have hl : xs.length = bl.length := Paired.length hx
  have hp2 : H2 p = some (.frz od (NdO P w p xs)) := hide_ex _ _ _ _ (see p _ op h2)
  refine ⟨fun i d hi => ?_, hp2, by rw [List.length_map, hl]⟩
  rw [List.getElem?_map] at hi
  cases e : bl[i]? with
  | none =>
    rw [e] at hi
    cases hi
  | some kv =>
    rw [e] at hi
    cases hi
    obtain ⟨x, x1, x2, x3⟩ := paired_get hx e
    refine ⟨⟨hp2, (List.getElem?_eq_some_iff.mp x1).1⟩, fun y H' hy => ?_⟩
    obtain ⟨rfl, z, hz, rfl⟩ := hy
    rw [x1] at hz
    cases hz
    exact ⟨Ex.refl _, .lst (.inl (.inl (see _ _ x2 x3))) (natV_rp kv.2)⟩
theorem wp_blocks (F : Fx) (ds : List Dt) (d : Dt) (hr : R_blocks ds d) : Wp F (t_blocks P w F.K F.cl) (ro0 ["book", "found", "place", "row", "some"] ds) (endP d) := by
  obtain ⟨B, ⟨ok, nr⟩, rfl, rfl⟩ := hr
  refine wp_seq (wp_drop (ev_call (ea_one (ev_var (d := B.d) rfl)) ⟨B, nr, rfl, rfl⟩) ?_)
  intro O σ H D R n r bb c p hp
  have hOp := R.noH hp
  have b0 : BI F P w B p [] (plus O p) (σ.set 1 (some (.ref p))) (upd H p (NdO P w p [])) [] := by
    have R0 : Rel F (plus O p) (upd H p (NdO P w p [])) σ (ρB B) := by
      refine Rel.over (F2 := F) R rfl rfl (plB B _ _ _ _ (.inl rfl) (.inl rfl) (.inl rfl) (.inl rfl)) (Vs.plus hp) (fun a h => plus_at.mpr (.inl (R.sub a h))) (fun a h => ?_) R.mb (fun a h g => ?_) fun a o h m => ?_
      · by_cases e : a = p
        · rw [e, upd_same]
          exact ⟨(fun z => by cases z), fun _ z => by cases z⟩
        · rw [upd_ne e]
          exact R.al a ((plus_at.mp h).resolve_right e)
      · rcases plus_at.mp h with h | h
        · exact R.fr a h g
        · rw [h]
          exact R.new0 hp
      · have h' := R.kp a o h m
        rw [upd_ne (ne_of_none h' hp)]
        exact h'
    refine ⟨R0.blank rfl, ?_, plus_at.mpr (.inr rfl), R.newB hp, upd_same, (fun x hx => absurd hx List.not_mem_nil), .nil, List.Pairwise.nil⟩
    have hl : σ.length = 5 := R.len
    rw [List.getElem?_set_self (by omega)]
  have v0 : Vs O H (plus O p) (upd H p (NdO P w p [])) := Vs.plus hp
  unfold gName tSeq tFor
  dsimp only
  refine ei_enumT (F := pin F (markAt F p []) (keepAt F p [] (upd H p (NdO P w p [])))) (ρ := ρB B) (ρ1 := ρB B) (ds := B.rows.map Row.d) (ea_one (ev_at (F := pin F (markAt F p []) (keepAt F p [] (upd H p (NdO P w p [])))) 2 (ev_var (k := 0) (d := B.d) rfl) (i := 2) rfl)) (plus O p) _ _ (b0.pinned (Ex.refl _) b0.rel (plB B _ _ _ _ (.inl rfl) (.inl rfl) (.inl rfl) (.inl rfl))) _ fun J O1 H1 l1 k1 R1 HJ => ?_
  have b1 := b0.move l1 k1 R1
  have hlen : (enumD (B.rows.map Row.d)).length = B.rows.length := by rw [enumD_len, List.length_map]
  have kl : (keyed B.tabs B.rows).length = B.rows.length := by
    unfold keyed
    rw [List.length_map, List.length_zipIdx]
  refine ⟨fun i m σ' H' => m = B.rows.length - i ∧ i ≤ B.rows.length ∧ ∃ O2 xs, BI F P w B p (blocksTo ((keyed B.tabs B.rows).take i) []) O2 σ' H' xs ∧ Vs O1 H1 O2 H', ⟨_, rfl, Nat.zero_le _, O1, [], b1, Vs.refl _ _⟩, ?_⟩
  rintro i m σ2 H2 ⟨rfl, hle, O2, xs, b2, vs⟩
  obtain ⟨g1, g2⟩ := HJ F O2 H2 σ2 _ rfl rfl vs b2.rel trivial
  rw [hlen] at g2
  have n10 := ok.n10
  by_cases hlt : i < B.rows.length
  · have hri : B.rows[i]? = some B.rows[i] := List.getElem?_eq_getElem hlt
    have hei : (enumD (B.rows.map Row.d))[i]? = some (.tup [natD i, (B.rows[i]).d]) := by
      unfold enumD
      rw [List.getElem?_map, List.getElem?_zipIdx, List.getElem?_map, hri, Nat.zero_add]
      rfl
    obtain ⟨go, yl⟩ := g1 i _ hei
    refine .inr ⟨go, fun σ' H' => ∃ O3 xs, BI F P w B p (blocksTo ((keyed B.tabs B.rows).take (i + 1)) []) O3 σ' H' xs ∧ Vs O1 H1 O3 H', fun σ' H' hN => ?_, fun x H' hy => ?_⟩
    · obtain ⟨O3, xs3, z⟩ := hN
      exact ⟨B.rows.length - (i + 1), by omega, rfl, hlt, O3, xs3, z⟩
    · obtain ⟨ex, rx⟩ := yl x H' hy
      refine tg_tup (F := F) rfl (tgs_cons (tg_name (i := 2)) (tgs_cons (tg_name (i := 3)) tgs_nil)) O2 σ2 H' x (b2.rel.ex ex) rx _ fun σ3 sb R3 => ?_
      have t1 := to_ok ((keyed B.tabs B.rows).take i)
      have t2 := blocksTo_len ((keyed B.tabs B.rows).take i) []
      have t3 : ((keyed B.tabs B.rows).take i).length ≤ B.rows.length := by
        rw [List.length_take]
        omega
      have s1 : σ3[1]? = some (some (.ref p)) := by
        rw [sb.2 1 (by decide)]
        exact b2.s1
      rw [List.length_nil] at t2
      refine blocks_step (i := i) (r := B.rows[i]) b2 ex R3 s1 t1.1 (by omega) (fun kv hk => by have := t1.2 kv hk; omega) (by obtain ⟨T, hT, _⟩ := ok.row _ (List.getElem_mem hlt); exact (List.getElem?_eq_some_iff.mp hT).1) fun O4 H4 xs4 b4 v4 => ⟨O4, xs4, ?_, vs.trans v4⟩
      rw [to_next (keyed_at hri)]
      exact b4
  · have e : i = B.rows.length := by omega
    subst e
    refine .inl ⟨g2, ?_⟩
    have vH : Vs O H O2 H2 := (v0.trans (k1.vs l1)).trans vs
    rw [List.take_of_length_le (by omega), ← blocksK_eq] at b2
    have hl2 : (blocksK B.tabs B.rows).length ≤ B.rows.length := by
      have := blocks_len B.tabs B.rows
      unfold blocksV at this
      rwa [List.length_map] at this
    generalize hbl : blocksK B.tabs B.rows = bl at b2 hl2
    refine ⟨p, NdO P w p xs, b2.dict, trivial, fun od => ?_⟩
    refine tLc_at (od := od) (xs := xs) b2.s1 upd_same ?_
    have pl := plB B _ _ _ _ (.inl rfl) (.inl rfl) (.inl rfl) (.inl rfl)
    let O7 : Addr → Bool := fun a => O2 a && !decide (a = p ∨ a ∈ xs.map (·.2.2))
    have o7 : ∀ a, O7 a = true ↔ O2 a = true ∧ ¬ (a = p ∨ a ∈ xs.map (·.2.2)) := fun a => by
      show (O2 a && !decide (a = p ∨ a ∈ xs.map (·.2.2))) = true ↔ _
      rw [Bool.and_eq_true, Bool.not_eq_true', decide_eq_false_iff_not]
    have o7n : ∀ a, (a = p ∨ a ∈ xs.map (·.2.2)) → O7 a = false := fun a h => by
      cases e : O7 a with
      | false => rfl
      | true => exact absurd h ((o7 a).mp e).2
    have le7 : Le O7 O2 := fun a h => ((o7 a).mp h).1
    have v27 : Vs O2 H2 O7 (upd H2 p (.frz od (NdO P w p xs))) := fun a o h => by
      obtain ⟨h1, h2⟩ := hide_at.mp h
      have ne : a ≠ p := fun z => by
        rw [z, b2.op] at h1
        cases h1
      exact hide_at.mpr ⟨le7.no h1, by rw [upd_ne ne]; exact h2⟩
    have R7 : Rel F O7 (upd H2 p (.frz od (NdO P w p xs))) σ2 (ρB B) := by
      refine Rel.over (F2 := F) b2.rel rfl rfl pl v27 (fun a h => (o7 a).mpr ⟨b2.rel.sub a h, ?_⟩) (fun a h => ?_) b2.rel.mb (fun a h => b2.rel.fr a (le7 a h)) fun a o h m => ?_
      · rintro (e | e)
        · rw [e, b2.bp] at h
          cases h
        · obtain ⟨x, hx, rfl⟩ := List.mem_map.mp e
          obtain ⟨_, _, q, _⟩ := b2.mem hx
          rw [q] at h
          cases h
      · have z := (o7 a).mp h
        rw [upd_ne (fun e => z.2 (.inl e))]
        exact b2.rel.al a z.1
      · have ne : a ≠ p := fun e => by
          rw [e, b2.rel.fr p b2.op b2.bp] at h
          cases h
        rw [upd_ne ne]
        exact b2.rel.kp a o h m
    have hi := ei_at (bl := bl) R7 pl (o7n p (.inl rfl)) upd_same (paired_id b2.par fun x hx kv _ h => ⟨o7n _ (.inr (List.mem_map.mpr ⟨x, hx, rfl⟩)), by rw [upd_ne h.2.2.2.1]; exact h.2.2.2.2⟩)
    have lc := ev_lcA (F := F) (vs := [4]) (g := gName 4) (te := tCB (rList F.K) (tCons (tVar 4) tNil)) bl (fun kv => natsL kv.2) (fun kv => natsL kv.2) hi (by omega) (clean1 (.inl rfl)) fun B' G kv hk => ⟨[4], _, fun k hk => hk, tg_name, ev_CB (ea_one (ev_var rfl)) (rc_list (.inl rfl)), rfl⟩
    refine lc O7 σ2 _ R7 _ fun v O8 H8 l8 k8 R8 rv => ?_
    have p8 : H8 p = some (.frz od (NdO P w p xs)) := k8 p _ (o7n p (.inl rfl)) upd_same
    have v28 : Vs O2 H2 (plus O8 p) (upd H8 p (NdO P w p xs)) := fun a o h => by
      obtain ⟨h1, h2⟩ := hide_at.mp h
      have ne : a ≠ p := fun z => by
        rw [z, b2.op] at h1
        cases h1
      obtain ⟨h3, h4⟩ := hide_at.mp ((v27.trans (k8.vs l8)) a o h)
      exact hide_at.mpr ⟨plus_no.mpr ⟨h3, ne⟩, by rw [upd_ne ne]; exact h4⟩
    refine ⟨p8, r (plus O8 p) σ2 _ (ρB B) _ v rfl (vH.trans v28) ?_ ?_⟩
    · refine Rel.over (F2 := F) b2.rel rfl rfl pl v28 (fun a h => plus_at.mpr (.inl (R8.sub a h))) (fun a h => ?_) b2.rel.mb (fun a h g => ?_) fun a o h m => ?_
      · by_cases e : a = p
        · rw [e, upd_same]
          exact ⟨(fun z => by cases z), fun _ z => by cases z⟩
        · rw [upd_ne e]
          exact R8.al a ((plus_at.mp h).resolve_right e)
      · rcases plus_at.mp h with h | h
        · exact R8.fr a h g
        · rw [h]
          exact b2.rel.fr p b2.op b2.bp
      · have ne : a ≠ p := fun e => by
          rw [e, b2.rel.fr p b2.op b2.bp] at h
          cases h
        rw [upd_ne ne]
        exact R8.kp a o h m
    · have hd : Dt.lst ((blocksV B.tabs B.rows).map natsL) = .lst (bl.map fun kv => natsL kv.2) := by
        unfold blocksV
        rw [hbl, List.map_map]
        rfl
      show Rp F.K F.cl _ v (.lst ((blocksV B.tabs B.rows).map natsL))
      rw [hd]
      have mv : ∀ b o, hide O8 H8 b = some o → b ≠ p → hide (plus O8 p) (upd H8 p (NdO P w p xs)) b = some o := fun b o h ne => by
        obtain ⟨h1, h2⟩ := hide_at.mp h
        exact hide_at.mpr ⟨plus_no.mpr ⟨h1, ne⟩, by rw [upd_ne ne]; exact h2⟩
      have hp8 : hide O8 H8 p = some (.frz od (NdO P w p xs)) := hide_at.mpr ⟨l8.no (o7n p (.inl rfl)), p8⟩
      cases rv with
      | lst hs ha => exact .lst (sq_frz mv hp8 hs) (lists_frz mv hp8 ha)
end
end Md
namespace Md
open PySem PySem.Spec PyProof.Rows L2
section
variable {P : Program} {w : World} {K : PySem.W.Frag} {mg : Str → Option Value} {base : Heap}
theorem o_is_plain (T : Tx P w K mg base) : OkF P w K mg base "is_plain" 1 ["book"] (sp_is_plain K (clK K)) := by
  obtain ⟨fd, F⟩ := T.s.def_ 0 (d := d_is_plain) rfl
  have sc : FnScope ["book"] ["book"] (defScope s_is_plain) := ⟨rfl, rfl, rfl, by decide +kernel, rfl, by decide +kernel, by decide +kernel⟩
  refine ⟨_, fd, T.g_is_plain, F.kp, F.bindsN (fun _ _ _ _ _ _ us hl => match us, hl with | [_], _ => rfl), F.ok sc (fun vs H Q E h => spP_len (Rof.len (n := 1) fun _ => rfl) h) fun cdv A outer s H vs Q E hr h => ⟨t_is_plain K (clK K), PSs.nox ?_, spP_of (tt := t_is_plain) (N := ["book"]) (Rof.len (n := 1) fun _ => rfl) (by decide) (fun F hK hc ds d r => wp_is_plain F ds d r) vs H Q E h⟩⟩
  exact (pss_one (ps_ret (pe_cmpR op_eq (pe_callB call_lenQ (by rfl) T.f_len bt_len (pa_cons (pe_ix ix_tup (pv 0) pe_int (fun _ _ => rfl)) pa_nil)) pe_int (nomark _))))
theorem o_check_plain (T : Tx P w K mg base) : OkF P w K mg base "check_plain" 2 ["book"] (sp_check_plain K (clK K)) := by
  obtain ⟨fd, F⟩ := T.s.def_ 1 (d := d_check_plain) rfl
  have sc : FnScope ["book"] ["book"] (defScope s_check_plain) := ⟨rfl, rfl, rfl, by decide +kernel, rfl, by decide +kernel, by decide +kernel⟩
  refine ⟨_, fd, T.g_check_plain, F.kp, F.bindsN (fun _ _ _ _ _ _ us hl => match us, hl with | [_], _ => rfl), F.ok sc (fun vs H Q E h => spP_len (Rof.len (n := 1) fun _ => rfl) h) fun cdv A outer s H vs Q E hr h => ⟨t_check_plain K (clK K), PSs.nox ?_, spP_of (tt := t_check_plain) (N := ["book"]) (Rof.len (n := 1) fun _ => rfl) (by decide) (fun F hK hc ds d r => wp_check_plain F ds d r) vs H Q E h⟩⟩
  exact (pss_one (ps_if (pt_not (pt_val (pe_cF (o_is_plain T) (hr.mono (by decide)) (by rfl) (pa_cons (pv 0) pa_nil)))) (pss_one ps_never) pss_nil))
theorem o_key_of (T : Tx P w K mg base) : OkF P w K mg base "key_of" 1 ["book", "row"] (sp_key_of K (clK K)) := by
  obtain ⟨fd, F⟩ := T.s.def_ 2 (d := d_key_of) rfl
  have sc : FnScope ["book", "row", "t", "cells"] ["book", "row"] (defScope s_key_of) := ⟨rfl, rfl, rfl, by decide +kernel, rfl, by decide +kernel, by decide +kernel⟩
  refine ⟨_, fd, T.g_key_of, F.kp, F.bindsN (fun _ _ _ _ _ _ us hl => match us, hl with | [_, _], _ => rfl), F.ok sc (fun vs H Q E h => spP_len (Rof.len (n := 2) fun _ => rfl) h) fun cdv A outer s H vs Q E hr h => ⟨t_key_of K (clK K), PSs.nox ?_, spP_of (tt := t_key_of) (N := ["book", "row", "t", "cells"]) (Rof.len (n := 2) fun _ => rfl) (by decide) (fun F hK hc ds d r => wp_key_of F ds d r) vs H Q E h⟩⟩
  exact (pss_cons (ps_asg (pv 1) (pg_tup rfl (pgs_cons (pg_name (i := 2) sc.nd rfl (by first | exact .inl rfl | exact .inr rfl)) (pgs_cons (pg_name (i := 3) sc.nd rfl (by first | exact .inl rfl | exact .inr rfl)) pgs_nil)))) (pss_one (ps_ret (pe_tup (pa_cons (pv 2) (pa_cons (pe_slice sl_tupA (pv 3) po_none (po_some (pe_ix ix_tup (pe_ix ix_tup (pe_ix ix_tup (pv 0) pe_int (fun _ _ => rfl)) (pv 2) (fun _ _ => rfl)) pe_int (fun _ _ => rfl)))) pa_nil))))))
theorem o_blocks (T : Tx P w K mg base) : OkF P w K mg base "blocks" 4 ["book"] (sp_blocks K (clK K)) := by
  obtain ⟨fd, F⟩ := T.s.def_ 3 (d := d_blocks) rfl
  have sc : FnScope ["book", "found", "place", "row", "some"] ["book"] (defScope s_blocks) := ⟨rfl, rfl, rfl, by decide +kernel, rfl, by decide +kernel, by decide +kernel⟩
  refine ⟨_, fd, T.g_blocks, F.kp, F.bindsN (fun _ _ _ _ _ _ us hl => match us, hl with | [_], _ => rfl), F.ok sc (fun vs H Q E h => spP_len (Rof.len (n := 1) fun _ => rfl) h) fun cdv A outer s H vs Q E hr h => ⟨t_blocks P w K (clK K), PSs.nox ?_, spP_of (tt := t_blocks P w) (N := ["book", "found", "place", "row", "some"]) (Rof.len (n := 1) fun _ => rfl) (by decide) (fun F hK hc ds d r => wp_blocks F ds d r) vs H Q E h⟩⟩
  exact (pss_cons (ps_expr (pe_cF (o_check_plain T) (hr.mono (by decide)) (by rfl) (pa_cons (pv 0) pa_nil))) (pss_cons (ps_set (i := 1) sc.nd rfl (by first | exact .inl rfl | exact .inr rfl) pe_dnewN)
    (pss_cons (ps_for PassesOwn.never rfl (pi_enumT (by rfl) T.f_enumerate (pa_cons (pe_ix ix_tup (pv 0) pe_int (fun _ _ => rfl)) pa_nil)) (pg_tup rfl (pgs_cons (pg_name (i := 2) sc.nd rfl (by first | exact .inl rfl | exact .inr rfl)) (pgs_cons (pg_name (i := 3) sc.nd rfl (by first | exact .inl rfl | exact .inr rfl)) pgs_nil)))
      (pss_one (ps_expr (pe_bm PySem.F.plainAttrs_list PySem.F.slot_list_append PySem.F.type_list_append mt_append (pe_setd (hu65 hr) (pv 1) (pe_cF (o_key_of T) (hr.mono (by decide)) (by rfl) (pa_cons (pv 0) (pa_cons (pv 3) pa_nil))) (pe_lst pa_nil) ⟨rfl, rfl, rfl, rfl⟩) (pa_cons (pv 2) pa_nil)))))
      (pss_one (ps_lock (ps_ret (pe_lc (own := [("some", 4)]) (g := gName 4) (tt := tYes) rfl sc.nd (pi_valuesN (pv 1)) (blkOk_by (own := [("some", 4)]) (by kernel_rfl)) (fun _ _ _ _ _ => (pg_name (i := 4) sc.nd rfl (by first | exact .inl rfl | exact .inr rfl))) (fun _ _ _ _ _ => pts_nil) (fun _ _ _ _ _ => (pe_callTy call_listQ (by rfl) T.f_list bt_list (pa_cons (pv 4) pa_nil))))))))))
end
end Md
namespace Md
open PySem PySem.Spec PyProof.Rows L2
section
variable {P : Program} {w : World} {K : PySem.W.Frag} {mg : Str → Option Value} {base : Heap}
theorem o_side_value (T : Tx P w K mg base) : OkF P w K mg base "side_value" 1 ["side", "rows"] (sp_side_value K (clK K)) := by
  obtain ⟨fd, F⟩ := T.s.def_ 4 (d := d_side_value) rfl
  have sc : FnScope ["side", "rows"] ["side", "rows"] (defScope s_side_value) := ⟨rfl, rfl, rfl, by decide +kernel, rfl, by decide +kernel, by decide +kernel⟩
  refine ⟨_, fd, T.g_side_value, F.kp, F.bindsN (fun _ _ _ _ _ _ us hl => match us, hl with | [_, _], _ => rfl), F.ok sc (fun vs H Q E h => spP_len (Rof.len (n := 2) fun _ => rfl) h) fun cdv A outer s H vs Q E hr h => ⟨t_side_value K (clK K), PSs.nox ?_, spP_of (tt := t_side_value) (N := ["side", "rows"]) (Rof.len (n := 2) fun _ => rfl) (by decide) (fun F hK hc ds d r => wp_side_value F ds d r) vs H Q E h⟩⟩
  exact (pss_cons (ps_if (pt_cmpR op_eq (pe_ix ix_tup (pv 0) pe_int (fun _ _ => rfl)) pe_str (nomark _)) (pss_one (ps_ret (pe_ix ix_tup (pv 0) pe_int (fun _ _ => rfl)))) pss_nil) (pss_one (ps_ret (pe_ix ix_tup (pe_ix ix_tup (pe_ix ix_tup (pv 1) (pe_ix ix_tup (pv 0) pe_int (fun _ _ => rfl)) (fun _ _ => rfl)) pe_int (fun _ _ => rfl)) (pe_ix ix_tup (pv 0) pe_int (fun _ _ => rfl)) (fun _ _ => rfl)))))
theorem o_test_holds (T : Tx P w K mg base) : OkF P w K mg base "test_holds" 2 ["test", "rows"] (sp_test_holds K (clK K)) := by
  obtain ⟨fd, F⟩ := T.s.def_ 5 (d := d_test_holds) rfl
  have sc : FnScope ["test", "rows", "left", "right"] ["test", "rows"] (defScope s_test_holds) := ⟨rfl, rfl, rfl, by decide +kernel, rfl, by decide +kernel, by decide +kernel⟩
  refine ⟨_, fd, T.g_test_holds, F.kp, F.bindsN (fun _ _ _ _ _ _ us hl => match us, hl with | [_, _], _ => rfl), F.ok sc (fun vs H Q E h => spP_len (Rof.len (n := 2) fun _ => rfl) h) fun cdv A outer s H vs Q E hr h => ⟨t_test_holds K (clK K), PSs.nox ?_, spP_of (tt := t_test_holds) (N := ["test", "rows", "left", "right"]) (Rof.len (n := 2) fun _ => rfl) (by decide) (fun F hK hc ds d r => wp_test_holds F ds d r) vs H Q E h⟩⟩
  exact (pss_cons (ps_set (i := 2) sc.nd rfl (by first | exact .inl rfl | exact .inr rfl) (pe_cF (o_side_value T) (hr.mono (by decide)) (by rfl) (pa_cons (pe_ix ix_tup (pv 0) pe_int (fun _ _ => rfl)) (pa_cons (pv 1) pa_nil)))) (pss_cons (ps_set (i := 3) sc.nd rfl (by first | exact .inl rfl | exact .inr rfl) (pe_cF (o_side_value T) (hr.mono (by decide)) (by rfl) (pa_cons (pe_ix ix_tup (pv 0) pe_int (fun _ _ => rfl)) (pa_cons (pv 1) pa_nil)))) (pss_cons (ps_if (pt_cmpR op_eq (pe_ix ix_tup (pv 0) pe_int (fun _ _ => rfl)) pe_str (nomark _)) (pss_one (ps_ret (pe_cmpR op_eq (pv 2) (pv 3) (nomark _)))) pss_nil) (pss_cons (ps_if (pt_cmpR op_eq (pe_ix ix_tup (pv 0) pe_int (fun _ _ => rfl)) pe_str (nomark _)) (pss_one (ps_ret (pe_cmpR op_ne (pv 2) (pv 3) (nomark _)))) pss_nil) (pss_one (ps_ret (pe_and (pe_callB call_isi (by rfl) T.f_isinstance bt_isinstance (pa_cons (pv 2) (pa_cons (pe_bltn (v := V.ty "int") (by rfl) T.f_int bt_int rfl) pa_nil))) (pe_and (pe_callB call_isi (by rfl) T.f_isinstance bt_isinstance (pa_cons (pv 3) (pa_cons (pe_bltn (v := V.ty "int") (by rfl) T.f_int bt_int rfl) pa_nil))) (pe_one (pe_cmpR op_lt (pv 2) (pv 3) (nomark _)))))))))))
theorem o_all_hold (T : Tx P w K mg base) : OkF P w K mg base "all_hold" 3 ["tests", "rows"] (sp_all_hold K (clK K)) := by
  obtain ⟨fd, F⟩ := T.s.def_ 6 (d := d_all_hold) rfl
  have sc : FnScope ["tests", "rows", "test"] ["tests", "rows"] (defScope s_all_hold) := ⟨rfl, rfl, rfl, by decide +kernel, rfl, by decide +kernel, by decide +kernel⟩
  refine ⟨_, fd, T.g_all_hold, F.kp, F.bindsN (fun _ _ _ _ _ _ us hl => match us, hl with | [_, _], _ => rfl), F.ok sc (fun vs H Q E h => spP_len (Rof.len (n := 2) fun _ => rfl) h) fun cdv A outer s H vs Q E hr h => ⟨t_all_hold K (clK K), PSs.nox ?_, spP_of (tt := t_all_hold) (N := ["tests", "rows", "test"]) (Rof.len (n := 2) fun _ => rfl) (by decide) (fun F hK hc ds d r => wp_all_hold F ds d r) vs H Q E h⟩⟩
  exact (pss_one (ps_ret (pe_callB (cr_all rfl) (by rfl) T.f_all bt_all (pa_cons (pe_lc (own := [("test", 2)]) (g := (gName 2)) (tt := tYes) rfl sc.nd (pi_tup (pv 0)) (blkOk_by (own := [("test", 2)]) (by kernel_rfl)) (fun _ _ _ _ _ => (pg_name (i := 2) sc.nd rfl (by first | exact .inl rfl | exact .inr rfl))) (fun _ _ _ _ _ => pts_nil) (fun _ _ _ _ _ => (pe_cF (o_test_holds T) (hr.mono (by decide)) (by rfl) (pa_cons (pv 2) (pa_cons (pv 1) pa_nil))))) pa_nil))))
theorem o_init_Never (T : Tx P w K mg base) : OkI P w K mg base "Never" (clK K 0) 1 ["self", "parts"] (spI (clK K 0)) := by
  obtain ⟨fd, F⟩ := T.s.def_ 7 (d := d_init_Never) rfl
  have sc : FnScope ["self", "parts"] ["self", "parts"] (defScope s_init_Never) := ⟨rfl, rfl, rfl, by decide +kernel, rfl, by decide +kernel, by decide +kernel⟩
  refine ⟨_, fd, T.g_Never, T.mkr_Never, F.bindsN (fun _ _ _ _ _ _ us hl => match us, hl with | [_, _], _ => rfl), F.ok sc (fun vs H Q E h => spI_len h) fun cdv A outer s H vs Q E hr h => ⟨t_init K (clK K), PSs.nox ?_, spI_read (K := K) _ vs H Q E (T.cls 0) (T.noat 0) h⟩⟩
  exact (pss_one (ps_fld (pv 0) (pv 1) rfl))
theorem o_init_Apart (T : Tx P w K mg base) : OkI P w K mg base "Apart" (clK K 1) 1 ["self", "parts"] (spI (clK K 1)) := by
  obtain ⟨fd, F⟩ := T.s.def_ 8 (d := d_init_Apart) rfl
  have sc : FnScope ["self", "parts"] ["self", "parts"] (defScope s_init_Apart) := ⟨rfl, rfl, rfl, by decide +kernel, rfl, by decide +kernel, by decide +kernel⟩
  refine ⟨_, fd, T.g_Apart, T.mkr_Apart, F.bindsN (fun _ _ _ _ _ _ us hl => match us, hl with | [_, _], _ => rfl), F.ok sc (fun vs H Q E h => spI_len h) fun cdv A outer s H vs Q E hr h => ⟨t_init K (clK K), PSs.nox ?_, spI_read (K := K) _ vs H Q E (T.cls 1) (T.noat 1) h⟩⟩
  exact (pss_one (ps_fld (pv 0) (pv 1) rfl))
theorem o_init_Tie (T : Tx P w K mg base) : OkI P w K mg base "Tie" (clK K 2) 1 ["self", "parts"] (spI (clK K 2)) := by
  obtain ⟨fd, F⟩ := T.s.def_ 9 (d := d_init_Tie) rfl
  have sc : FnScope ["self", "parts"] ["self", "parts"] (defScope s_init_Tie) := ⟨rfl, rfl, rfl, by decide +kernel, rfl, by decide +kernel, by decide +kernel⟩
  refine ⟨_, fd, T.g_Tie, T.mkr_Tie, F.bindsN (fun _ _ _ _ _ _ us hl => match us, hl with | [_, _], _ => rfl), F.ok sc (fun vs H Q E h => spI_len h) fun cdv A outer s H vs Q E hr h => ⟨t_init K (clK K), PSs.nox ?_, spI_read (K := K) _ vs H Q E (T.cls 2) (T.noat 2) h⟩⟩
  exact (pss_one (ps_fld (pv 0) (pv 1) rfl))
theorem o_bars_Apart (T : Tx P w K mg base) : OkM P w K mg base (clK K 1) "bars" 1 ["self", "row"] (sp_bars_Apart K (clK K)) := by
  obtain ⟨fd, F⟩ := T.s.def_ 10 (d := d_bars_Apart) rfl
  have sc : FnScope ["self", "row"] ["self", "row"] (defScope s_bars_Apart) := ⟨rfl, rfl, rfl, by decide +kernel, rfl, by decide +kernel, by decide +kernel⟩
  refine ⟨_, fd, T.m_bars_Apart, F.bindsN (fun _ _ _ _ _ _ us hl => match us, hl with | [_, _], _ => rfl), F.ok sc (fun vs H Q E h => spP_len (Rof.len (n := 2) fun _ => rfl) h) fun cdv A outer s H vs Q E hr h => ⟨t_bars_Rule K (clK K), PSs.nox ?_, spP_of (tt := t_bars_Rule) (N := ["self", "row"]) (Rof.len (n := 2) fun _ => rfl) (by decide) (fun F hK hc ds d r => wp_bars_Rule 1 F (by decide) ds d r) vs H Q E h⟩⟩
  exact (pss_one (ps_ret pe_bl))
theorem o_bars_Tie (T : Tx P w K mg base) : OkM P w K mg base (clK K 2) "bars" 1 ["self", "row"] (sp_bars_Tie K (clK K)) := by
  obtain ⟨fd, F⟩ := T.s.def_ 11 (d := d_bars_Tie) rfl
  have sc : FnScope ["self", "row"] ["self", "row"] (defScope s_bars_Tie) := ⟨rfl, rfl, rfl, by decide +kernel, rfl, by decide +kernel, by decide +kernel⟩
  refine ⟨_, fd, T.m_bars_Tie, F.bindsN (fun _ _ _ _ _ _ us hl => match us, hl with | [_, _], _ => rfl), F.ok sc (fun vs H Q E h => spP_len (Rof.len (n := 2) fun _ => rfl) h) fun cdv A outer s H vs Q E hr h => ⟨t_bars_Rule K (clK K), PSs.nox ?_, spP_of (tt := t_bars_Rule) (N := ["self", "row"]) (Rof.len (n := 2) fun _ => rfl) (by decide) (fun F hK hc ds d r => wp_bars_Rule 2 F (by decide) ds d r) vs H Q E h⟩⟩
  exact (pss_one (ps_ret pe_bl))
theorem o_parts_them_Never (T : Tx P w K mg base) : OkM P w K mg base (clK K 0) "parts_them" 1 ["self", "row", "other"] (sp_parts_them_Never K (clK K)) := by
  obtain ⟨fd, F⟩ := T.s.def_ 12 (d := d_parts_them_Never) rfl
  have sc : FnScope ["self", "row", "other"] ["self", "row", "other"] (defScope s_parts_them_Never) := ⟨rfl, rfl, rfl, by decide +kernel, rfl, by decide +kernel, by decide +kernel⟩
  refine ⟨_, fd, T.m_parts_them_Never, F.bindsN (fun _ _ _ _ _ _ us hl => match us, hl with | [_, _, _], _ => rfl), F.ok sc (fun vs H Q E h => spP_len (Rof.len (n := 3) fun _ => rfl) h) fun cdv A outer s H vs Q E hr h => ⟨t_parts_them_Rule K (clK K), PSs.nox ?_, spP_of (tt := t_parts_them_Rule) (N := ["self", "row", "other"]) (Rof.len (n := 3) fun _ => rfl) (by decide) (fun F hK hc ds d r => wp_parts_them_Rule 0 F (by decide) ds d r) vs H Q E h⟩⟩
  exact (pss_one (ps_ret pe_bl))
theorem o_parts_them_Tie (T : Tx P w K mg base) : OkM P w K mg base (clK K 2) "parts_them" 1 ["self", "row", "other"] (sp_parts_them_Tie K (clK K)) := by
  obtain ⟨fd, F⟩ := T.s.def_ 13 (d := d_parts_them_Tie) rfl
  have sc : FnScope ["self", "row", "other"] ["self", "row", "other"] (defScope s_parts_them_Tie) := ⟨rfl, rfl, rfl, by decide +kernel, rfl, by decide +kernel, by decide +kernel⟩
  refine ⟨_, fd, T.m_parts_them_Tie, F.bindsN (fun _ _ _ _ _ _ us hl => match us, hl with | [_, _, _], _ => rfl), F.ok sc (fun vs H Q E h => spP_len (Rof.len (n := 3) fun _ => rfl) h) fun cdv A outer s H vs Q E hr h => ⟨t_parts_them_Rule K (clK K), PSs.nox ?_, spP_of (tt := t_parts_them_Rule) (N := ["self", "row", "other"]) (Rof.len (n := 3) fun _ => rfl) (by decide) (fun F hK hc ds d r => wp_parts_them_Rule 2 F (by decide) ds d r) vs H Q E h⟩⟩
  exact (pss_one (ps_ret pe_bl))
theorem o_lacks_Never (T : Tx P w K mg base) : OkM P w K mg base (clK K 0) "lacks" 1 ["self", "row", "rows"] (sp_lacks_Never K (clK K)) := by
  obtain ⟨fd, F⟩ := T.s.def_ 14 (d := d_lacks_Never) rfl
  have sc : FnScope ["self", "row", "rows"] ["self", "row", "rows"] (defScope s_lacks_Never) := ⟨rfl, rfl, rfl, by decide +kernel, rfl, by decide +kernel, by decide +kernel⟩
  refine ⟨_, fd, T.m_lacks_Never, F.bindsN (fun _ _ _ _ _ _ us hl => match us, hl with | [_, _, _], _ => rfl), F.ok sc (fun vs H Q E h => spP_len (Rof.len (n := 3) fun _ => rfl) h) fun cdv A outer s H vs Q E hr h => ⟨t_lacks_Rule K (clK K), PSs.nox ?_, spP_of (tt := t_lacks_Rule) (N := ["self", "row", "rows"]) (Rof.len (n := 3) fun _ => rfl) (by decide) (fun F hK hc ds d r => wp_lacks_Rule 0 F (by decide) ds d r) vs H Q E h⟩⟩
  exact (pss_one (ps_ret pe_bl))
theorem o_lacks_Apart (T : Tx P w K mg base) : OkM P w K mg base (clK K 1) "lacks" 1 ["self", "row", "rows"] (sp_lacks_Apart K (clK K)) := by
  obtain ⟨fd, F⟩ := T.s.def_ 15 (d := d_lacks_Apart) rfl
  have sc : FnScope ["self", "row", "rows"] ["self", "row", "rows"] (defScope s_lacks_Apart) := ⟨rfl, rfl, rfl, by decide +kernel, rfl, by decide +kernel, by decide +kernel⟩
  refine ⟨_, fd, T.m_lacks_Apart, F.bindsN (fun _ _ _ _ _ _ us hl => match us, hl with | [_, _, _], _ => rfl), F.ok sc (fun vs H Q E h => spP_len (Rof.len (n := 3) fun _ => rfl) h) fun cdv A outer s H vs Q E hr h => ⟨t_lacks_Rule K (clK K), PSs.nox ?_, spP_of (tt := t_lacks_Rule) (N := ["self", "row", "rows"]) (Rof.len (n := 3) fun _ => rfl) (by decide) (fun F hK hc ds d r => wp_lacks_Rule 1 F (by decide) ds d r) vs H Q E h⟩⟩
  exact (pss_one (ps_ret pe_bl))
theorem o_bars_Never (T : Tx P w K mg base) : OkM P w K mg base (clK K 0) "bars" 4 ["self", "row"] (sp_bars_Never K (clK K)) := by
  obtain ⟨fd, F⟩ := T.s.def_ 16 (d := d_bars_Never) rfl
  have sc : FnScope ["self", "row"] ["self", "row"] (defScope s_bars_Never) := ⟨rfl, rfl, rfl, by decide +kernel, rfl, by decide +kernel, by decide +kernel⟩
  refine ⟨_, fd, T.m_bars_Never, F.bindsN (fun _ _ _ _ _ _ us hl => match us, hl with | [_, _], _ => rfl), F.ok sc (fun vs H Q E h => spP_len (Rof.len (n := 2) fun _ => rfl) h) fun cdv A outer s H vs Q E hr h => ⟨t_bars_Never K (clK K), PSs.nox ?_, spP_of (tt := t_bars_Never) (N := ["self", "row"]) (Rof.len (n := 2) fun _ => rfl) (by decide) (fun F hK hc ds d r => wp_bars_Never F (by rw [hK, hc]; exact T.cls 0) (by rw [hK, hc]; exact T.noat 0) ds d r) vs H Q E h⟩⟩
  exact (pss_one (ps_ret (pe_and (pe_cmpR op_eq (pe_ix ix_tup (pv 1) pe_int (fun _ _ => rfl)) (pe_ix ix_tup (pe_fld (pv 0) rfl) pe_int (fun _ _ => rfl)) (nomark _)) (pe_one (pe_cF (o_all_hold T) (hr.mono (by decide)) (by rfl) (pa_cons (pe_ix ix_tup (pe_fld (pv 0) rfl) pe_int (fun _ _ => rfl)) (pa_cons (pe_tup (pa_cons (pv 1) pa_nil)) pa_nil)))))))
theorem o_one_way_Apart (T : Tx P w K mg base) : OkM P w K mg base (clK K 1) "one_way" 4 ["self", "row", "other"] (sp_one_way_Apart K (clK K)) := by
  obtain ⟨fd, F⟩ := T.s.def_ 17 (d := d_one_way_Apart) rfl
  have sc : FnScope ["self", "row", "other"] ["self", "row", "other"] (defScope s_one_way_Apart) := ⟨rfl, rfl, rfl, by decide +kernel, rfl, by decide +kernel, by decide +kernel⟩
  refine ⟨_, fd, T.m_one_way_Apart, F.bindsN (fun _ _ _ _ _ _ us hl => match us, hl with | [_, _, _], _ => rfl), F.ok sc (fun vs H Q E h => spP_len (Rof.len (n := 3) fun _ => rfl) h) fun cdv A outer s H vs Q E hr h => ⟨t_one_way_Apart K (clK K), PSs.nox ?_, spP_of (tt := t_one_way_Apart) (N := ["self", "row", "other"]) (Rof.len (n := 3) fun _ => rfl) (by decide) (fun F hK hc ds d r => wp_one_way_Apart F (by rw [hK, hc]; exact T.cls 1) (by rw [hK, hc]; exact T.noat 1) ds d r) vs H Q E h⟩⟩
  exact (pss_cons (ps_if (PW.pt (pw_or (pt_cmpR op_ne (pe_ix ix_tup (pv 1) pe_int (fun _ _ => rfl)) (pe_ix ix_tup (pe_fld (pv 0) rfl) pe_int (fun _ _ => rfl)) (nomark _)) (pw_or1 (pt_cmpR op_ne (pe_ix ix_tup (pv 2) pe_int (fun _ _ => rfl)) (pe_ix ix_tup (pe_fld (pv 0) rfl) pe_int (fun _ _ => rfl)) (nomark _))))) (pss_one (ps_ret pe_bl)) pss_nil) (pss_one (ps_ret (pe_cF (o_all_hold T) (hr.mono (by decide)) (by rfl) (pa_cons (pe_ix ix_tup (pe_fld (pv 0) rfl) pe_int (fun _ _ => rfl)) (pa_cons (pe_tup (pa_cons (pv 1) (pa_cons (pv 2) pa_nil))) pa_nil))))))
theorem o_parts_them_Apart (T : Tx P w K mg base) : OkM P w K mg base (clK K 1) "parts_them" 5 ["self", "row", "other"] (sp_parts_them_Apart K (clK K)) := by
  obtain ⟨fd, F⟩ := T.s.def_ 18 (d := d_parts_them_Apart) rfl
  have sc : FnScope ["self", "row", "other"] ["self", "row", "other"] (defScope s_parts_them_Apart) := ⟨rfl, rfl, rfl, by decide +kernel, rfl, by decide +kernel, by decide +kernel⟩
  refine ⟨_, fd, T.m_parts_them_Apart, F.bindsN (fun _ _ _ _ _ _ us hl => match us, hl with | [_, _, _], _ => rfl), F.ok sc (fun vs H Q E h => spP_len (Rof.len (n := 3) fun _ => rfl) h) fun cdv A outer s H vs Q E hr h => ⟨t_parts_them_Apart K (clK K), PSs.nox ?_, spP_of (tt := t_parts_them_Apart) (N := ["self", "row", "other"]) (Rof.len (n := 3) fun _ => rfl) (by decide) (fun F hK hc ds d r => wp_parts_them_Apart F ds d r) vs H Q E h⟩⟩
  exact (pss_one (ps_ret (pe_or (pe_mF (pv 0) (T.cls 1) (o_one_way_Apart T) (hr.mono (by decide)) (pa_cons (pv 1) (pa_cons (pv 2) pa_nil))) (pe_one (pe_mF (pv 0) (T.cls 1) (o_one_way_Apart T) (hr.mono (by decide)) (pa_cons (pv 2) (pa_cons (pv 1) pa_nil)))))))
theorem o_lacks_Tie (T : Tx P w K mg base) : OkM P w K mg base (clK K 2) "lacks" 1 ["self", "row", "rows"] (sp_lacks_Tie K (clK K)) := by
  obtain ⟨fd, F⟩ := T.s.def_ 19 (d := d_lacks_Tie) rfl
  have sc : FnScope ["self", "row", "rows", "due", "c", "other"] ["self", "row", "rows"] (defScope s_lacks_Tie) := ⟨rfl, rfl, rfl, by decide +kernel, rfl, by decide +kernel, by decide +kernel⟩
  refine ⟨_, fd, T.m_lacks_Tie, F.bindsN (fun _ _ _ _ _ _ us hl => match us, hl with | [_, _, _], _ => rfl), F.ok sc (fun vs H Q E h => spP_len (Rof.len (n := 3) fun _ => rfl) h) fun cdv A outer s H vs Q E hr h => ⟨t_lacks_Tie K (clK K), PSs.nox ?_, spP_of (tt := t_lacks_Tie) (N := ["self", "row", "rows", "due", "c", "other"]) (Rof.len (n := 3) fun _ => rfl) (by decide) (fun F hK hc ds d r => wp_lacks_Tie F (by rw [hK, hc]; exact T.cls 2) (by rw [hK, hc]; exact T.noat 2) ds d r) vs H Q E h⟩⟩
  exact (pss_cons (ps_if (pt_cmpR op_ne (pe_ix ix_tup (pv 1) pe_int (fun _ _ => rfl)) (pe_ix ix_tup (pe_fld (pv 0) rfl) pe_int (fun _ _ => rfl)) (nomark _)) (pss_one (ps_ret pe_bl)) pss_nil) (pss_cons (ps_setLc (i := 3) (own := [("c", 4)]) (g := (gName 4)) (tt := tYes) rfl sc.nd rfl rfl (sw_true rfl rfl rfl (by kernel_rfl)) (pi_tup (pe_ix ix_tup (pe_fld (pv 0) rfl) pe_int (fun _ _ => rfl))) (blkOk_by (own := [("c", 4)]) (by kernel_rfl)) (fun _ _ _ _ _ => (pg_name (i := 4) sc.nd rfl (by first | exact .inl rfl | exact .inr rfl))) (fun _ _ _ _ _ => pts_nil) (fun _ _ _ _ _ => (pe_ix ix_tup (pe_ix ix_tup (pv 1) pe_int (fun _ _ => rfl)) (pv 4) (fun _ _ => rfl)))) (pss_cons (ps_for PassesOwn.never rfl (pi_list (pv 2)) (pg_name (i := 5) sc.nd rfl (by first | exact .inl rfl | exact .inr rfl)) (pss_one (ps_if (PW.pt (pw_and (pt_cmpR op_eq (pe_ix ix_tup (pv 5) pe_int (fun _ _ => rfl)) (pe_ix ix_tup (pe_fld (pv 0) rfl) pe_int (fun _ _ => rfl)) (nomark _)) (pw_and1 (pt_cmpR (op_eqD hr.units) (pe_lc (own := [("c", 4)]) (g := (gName 4)) (tt := tYes) rfl sc.nd (pi_tup (pe_ix ix_tup (pe_fld (pv 0) rfl) pe_int (fun _ _ => rfl))) (blkOk_by (own := [("c", 4)]) (by kernel_rfl)) (fun _ _ _ _ _ => (pg_name (i := 4) sc.nd rfl (by first | exact .inl rfl | exact .inr rfl))) (fun _ _ _ _ _ => pts_nil) (fun _ _ _ _ _ => (pe_ix ix_tup (pe_ix ix_tup (pv 5) pe_int (fun _ _ => rfl)) (pv 4) (fun _ _ => rfl)))) (pv 3) (nomark _))))) (pss_one (ps_ret pe_bl)) pss_nil))) (pss_one (ps_ret pe_bl)))))
theorem o_rule_of (T : Tx P w K mg base) : OkF P w K mg base "rule_of" 3 ["parts"] (sp_rule_of K (clK K)) := by
  obtain ⟨fd, F⟩ := T.s.def_ 20 (d := d_rule_of) rfl
  have sc : FnScope ["parts"] ["parts"] (defScope s_rule_of) := ⟨rfl, rfl, rfl, by decide +kernel, rfl, by decide +kernel, by decide +kernel⟩
  refine ⟨_, fd, T.g_rule_of, F.kp, F.bindsN (fun _ _ _ _ _ _ us hl => match us, hl with | [_], _ => rfl), F.ok sc (fun vs H Q E h => spP_len (Rof.len (n := 1) fun _ => rfl) h) fun cdv A outer s H vs Q E hr h => ⟨t_rule_of K (clK K), PSs.nox ?_, spP_of (tt := t_rule_of) (N := ["parts"]) (Rof.len (n := 1) fun _ => rfl) (by decide) (fun F hK hc ds d r => wp_rule_of F ds d r) vs H Q E h⟩⟩
  exact (pss_cons (ps_if (pt_cmpR op_eq (pe_ix ix_tup (pv 0) pe_int (fun _ _ => rfl)) pe_str (nomark _)) (pss_one (ps_ret (pe_mkF (o_init_Never T) (hr.mono (by decide)) (by rfl) (pa_cons (pv 0) pa_nil)))) pss_nil) (pss_cons (ps_if (pt_cmpR op_eq (pe_ix ix_tup (pv 0) pe_int (fun _ _ => rfl)) pe_str (nomark _)) (pss_one (ps_ret (pe_mkF (o_init_Apart T) (hr.mono (by decide)) (by rfl) (pa_cons (pv 0) pa_nil)))) pss_nil) (pss_one (ps_ret (pe_mkF (o_init_Tie T) (hr.mono (by decide)) (by rfl) (pa_cons (pv 0) pa_nil))))))
theorem o_rules_of (T : Tx P w K mg base) : OkF P w K mg base "rules_of" 4 ["book"] (sp_rules_of K (clK K)) := by
  obtain ⟨fd, F⟩ := T.s.def_ 21 (d := d_rules_of) rfl
  have sc : FnScope ["book", "parts"] ["book"] (defScope s_rules_of) := ⟨rfl, rfl, rfl, by decide +kernel, rfl, by decide +kernel, by decide +kernel⟩
  refine ⟨_, fd, T.g_rules_of, F.kp, F.bindsN (fun _ _ _ _ _ _ us hl => match us, hl with | [_], _ => rfl), F.ok sc (fun vs H Q E h => spP_len (Rof.len (n := 1) fun _ => rfl) h) fun cdv A outer s H vs Q E hr h => ⟨t_rules_of K (clK K), PSs.nox ?_, spP_of (tt := t_rules_of) (N := ["book", "parts"]) (Rof.len (n := 1) fun _ => rfl) (by decide) (fun F hK hc ds d r => wp_rules_of F ds d r) vs H Q E h⟩⟩
  exact (pss_one (ps_ret (pe_lc (own := [("parts", 1)]) (g := (gName 1)) (tt := tYes) rfl sc.nd (pi_tup (pe_ix ix_tup (pv 0) pe_int (fun _ _ => rfl))) (blkOk_by (own := [("parts", 1)]) (by kernel_rfl)) (fun _ _ _ _ _ => (pg_name (i := 1) sc.nd rfl (by first | exact .inl rfl | exact .inr rfl))) (fun _ _ _ _ _ => pts_nil) (fun _ _ _ _ _ => (pe_cF (o_rule_of T) (hr.mono (by decide)) (by rfl) (pa_cons (pv 1) pa_nil))))))
theorem o_key_at (T : Tx P w K mg base) : OkF P w K mg base "key_at" 1 ["book", "i"] (sp_key_at K (clK K)) := by
  obtain ⟨fd, F⟩ := T.s.def_ 22 (d := d_key_at) rfl
  have sc : FnScope ["book", "i", "t", "cells"] ["book", "i"] (defScope s_key_at) := ⟨rfl, rfl, rfl, by decide +kernel, rfl, by decide +kernel, by decide +kernel⟩
  refine ⟨_, fd, T.g_key_at, F.kp, F.bindsN (fun _ _ _ _ _ _ us hl => match us, hl with | [_, _], _ => rfl), F.ok sc (fun vs H Q E h => spP_len (Rof.len (n := 2) fun _ => rfl) h) fun cdv A outer s H vs Q E hr h => ⟨t_key_at K (clK K), PSs.nox ?_, spP_of (tt := t_key_at) (N := ["book", "i", "t", "cells"]) (Rof.len (n := 2) fun _ => rfl) (by decide) (fun F hK hc ds d r => wp_key_at F ds d r) vs H Q E h⟩⟩
  exact (pss_cons (ps_asg (pe_ix ix_tup (pe_ix ix_tup (pv 0) pe_int (fun _ _ => rfl)) (pv 1) (fun _ _ => rfl)) (pg_tup rfl (pgs_cons (pg_name (i := 2) sc.nd rfl (by first | exact .inl rfl | exact .inr rfl)) (pgs_cons (pg_name (i := 3) sc.nd rfl (by first | exact .inl rfl | exact .inr rfl)) pgs_nil)))) (pss_one (ps_ret (pe_tup (pa_cons (pv 2) (pa_cons (pe_slice sl_tupA (pv 3) po_none (po_some (pe_ix ix_tup (pe_ix ix_tup (pe_ix ix_tup (pv 0) pe_int (fun _ _ => rfl)) (pv 2) (fun _ _ => rfl)) pe_int (fun _ _ => rfl)))) pa_nil))))))
theorem o_alone_breaks (T : Tx P w K mg base) : OkF P w K mg base "alone_breaks" 5 ["book", "rules", "rows"] (sp_alone_breaks K (clK K)) := by
  obtain ⟨fd, F⟩ := T.s.def_ 23 (d := d_alone_breaks) rfl
  have sc : FnScope ["book", "rules", "rows", "some", "there", "i", "k", "rule"] ["book", "rules", "rows"] (defScope s_alone_breaks) := ⟨rfl, rfl, rfl, by decide +kernel, rfl, by decide +kernel, by decide +kernel⟩
  refine ⟨_, fd, T.g_alone_breaks, F.kp, F.bindsN (fun _ _ _ _ _ _ us hl => match us, hl with | [_, _, _], _ => rfl), F.ok sc (fun vs H Q E h => spP_len (Rof.len (n := 3) fun _ => rfl) h) fun cdv A outer s H vs Q E hr h => ⟨t_alone_breaks K (clK K), PSs.nox ?_, spP_of (tt := t_alone_breaks) (N := ["book", "rules", "rows", "some", "there", "i", "k", "rule"]) (Rof.len (n := 3) fun _ => rfl) (by decide) (fun F hK hc ds d r => wp_alone_breaks F ds d r) vs H Q E h⟩⟩
  exact (pss_cons (ps_set (i := 3) sc.nd rfl (by first | exact .inl rfl | exact .inr rfl) (pe_lst pa_nil)) (pss_cons (ps_setLc (i := 4) (own := [("i", 5)]) (g := (gName 5)) (tt := tYes) rfl sc.nd rfl rfl (sw_true rfl rfl rfl (by kernel_rfl)) (pi_tup (pv 2)) (blkOk_by (own := [("i", 5)]) (by kernel_rfl)) (fun _ _ _ _ _ => (pg_name (i := 5) sc.nd rfl (by first | exact .inl rfl | exact .inr rfl))) (fun _ _ _ _ _ => pts_nil) (fun _ _ _ _ _ => (pe_ix ix_tup (pe_ix ix_tup (pv 0) pe_int (fun _ _ => rfl)) (pv 5) (fun _ _ => rfl)))) (pss_cons (ps_for PassesOwn.never rfl (pi_tup (pv 2)) (pg_name (i := 5) sc.nd rfl (by first | exact .inl rfl | exact .inr rfl)) (pss_one (ps_for PassesOwn.never rfl (pi_enum (by rfl) T.f_enumerate (pa_cons (pv 1) pa_nil)) (pg_tup rfl (pgs_cons (pg_name (i := 6) sc.nd rfl (by first | exact .inl rfl | exact .inr rfl)) (pgs_cons (pg_name (i := 7) sc.nd rfl (by first | exact .inl rfl | exact .inr rfl)) pgs_nil))) (pss_cons (ps_if (pt_val (pe_either (pe_mF (pv 7) (T.cls 0) (o_bars_Never T) (hr.mono (by decide)) (pa_cons (pe_ix ix_tup (pe_ix ix_tup (pv 0) pe_int (fun _ _ => rfl)) (pv 5) (fun _ _ => rfl)) pa_nil)) (pe_either (pe_mF (pv 7) (T.cls 1) (o_bars_Apart T) (hr.mono (by decide)) (pa_cons (pe_ix ix_tup (pe_ix ix_tup (pv 0) pe_int (fun _ _ => rfl)) (pv 5) (fun _ _ => rfl)) pa_nil)) (pe_mF (pv 7) (T.cls 2) (o_bars_Tie T) (hr.mono (by decide)) (pa_cons (pe_ix ix_tup (pe_ix ix_tup (pv 0) pe_int (fun _ _ => rfl)) (pv 5) (fun _ _ => rfl)) pa_nil))))) (pss_one (ps_expr (pe_bm PySem.F.plainAttrs_list PySem.F.slot_list_append PySem.F.type_list_append mt_append (pv 3) (pa_cons (pe_tup (pa_cons pe_str (pa_cons (pv 5) (pa_cons (pv 6) pa_nil)))) pa_nil)))) pss_nil) (pss_one (ps_if (pt_val (pe_either (pe_mF (pv 7) (T.cls 0) (o_lacks_Never T) (hr.mono (by decide)) (pa_cons (pe_ix ix_tup (pe_ix ix_tup (pv 0) pe_int (fun _ _ => rfl)) (pv 5) (fun _ _ => rfl)) (pa_cons (pv 4) pa_nil))) (pe_either (pe_mF (pv 7) (T.cls 1) (o_lacks_Apart T) (hr.mono (by decide)) (pa_cons (pe_ix ix_tup (pe_ix ix_tup (pv 0) pe_int (fun _ _ => rfl)) (pv 5) (fun _ _ => rfl)) (pa_cons (pv 4) pa_nil))) (pe_mF (pv 7) (T.cls 2) (o_lacks_Tie T) (hr.mono (by decide)) (pa_cons (pe_ix ix_tup (pe_ix ix_tup (pv 0) pe_int (fun _ _ => rfl)) (pv 5) (fun _ _ => rfl)) (pa_cons (pv 4) pa_nil)))))) (pss_one (ps_expr (pe_bm PySem.F.plainAttrs_list PySem.F.slot_list_append PySem.F.type_list_append mt_append (pv 3) (pa_cons (pe_tup (pa_cons pe_str (pa_cons (pv 5) (pa_cons (pv 6) pa_nil)))) pa_nil)))) pss_nil)))))) (pss_one (ps_ret (pv 3))))))
theorem o_pair_breaks (T : Tx P w K mg base) : OkF P w K mg base "pair_breaks" 6 ["book", "rules", "rows"] (sp_pair_breaks K (clK K)) := by
  obtain ⟨fd, F⟩ := T.s.def_ 24 (d := d_pair_breaks) rfl
  have sc : FnScope ["book", "rules", "rows", "some", "i", "j", "k", "rule"] ["book", "rules", "rows"] (defScope s_pair_breaks) := ⟨rfl, rfl, rfl, by decide +kernel, rfl, by decide +kernel, by decide +kernel⟩
  refine ⟨_, fd, T.g_pair_breaks, F.kp, F.bindsN (fun _ _ _ _ _ _ us hl => match us, hl with | [_, _, _], _ => rfl), F.ok sc (fun vs H Q E h => spP_len (Rof.len (n := 3) fun _ => rfl) h) fun cdv A outer s H vs Q E hr h => ⟨t_pair_breaks K (clK K), PSs.nox ?_, spP_of (tt := t_pair_breaks) (N := ["book", "rules", "rows", "some", "i", "j", "k", "rule"]) (Rof.len (n := 3) fun _ => rfl) (by decide) (fun F hK hc ds d r => wp_pair_breaks F ds d r) vs H Q E h⟩⟩
  exact (pss_cons (ps_set (i := 3) sc.nd rfl (by first | exact .inl rfl | exact .inr rfl) (pe_lst pa_nil)) (pss_cons (ps_for PassesOwn.never rfl (pi_tup (pv 2)) (pg_name (i := 4) sc.nd rfl (by first | exact .inl rfl | exact .inr rfl)) (pss_one (ps_for PassesOwn.never rfl (pi_tup (pv 2)) (pg_name (i := 5) sc.nd rfl (by first | exact .inl rfl | exact .inr rfl)) (pss_cons (ps_if (PW.pt (pw_and (pt_cmpR op_lt (pv 4) (pv 5) (nomark _)) (pw_and1 (pt_cmpR (op_eqD hr.units) (pe_cF (o_key_at T) (hr.mono (by decide)) (by rfl) (pa_cons (pv 0) (pa_cons (pv 4) pa_nil))) (pe_cF (o_key_at T) (hr.mono (by decide)) (by rfl) (pa_cons (pv 0) (pa_cons (pv 5) pa_nil))) (nomark _))))) (pss_one (ps_expr (pe_bm PySem.F.plainAttrs_list PySem.F.slot_list_append PySem.F.type_list_append mt_append (pv 3) (pa_cons (pe_tup (pa_cons pe_str (pa_cons (pv 4) (pa_cons (pv 5) pa_nil)))) pa_nil)))) pss_nil) (pss_one (ps_for PassesOwn.never rfl (pi_enum (by rfl) T.f_enumerate (pa_cons (pv 1) pa_nil)) (pg_tup rfl (pgs_cons (pg_name (i := 6) sc.nd rfl (by first | exact .inl rfl | exact .inr rfl)) (pgs_cons (pg_name (i := 7) sc.nd rfl (by first | exact .inl rfl | exact .inr rfl)) pgs_nil))) (pss_one (ps_if (PW.pt (pw_and (pt_cmpR op_lt (pv 4) (pv 5) (nomark _)) (pw_and1 (pt_val (pe_either (pe_mF (pv 7) (T.cls 0) (o_parts_them_Never T) (hr.mono (by decide)) (pa_cons (pe_ix ix_tup (pe_ix ix_tup (pv 0) pe_int (fun _ _ => rfl)) (pv 4) (fun _ _ => rfl)) (pa_cons (pe_ix ix_tup (pe_ix ix_tup (pv 0) pe_int (fun _ _ => rfl)) (pv 5) (fun _ _ => rfl)) pa_nil))) (pe_either (pe_mF (pv 7) (T.cls 1) (o_parts_them_Apart T) (hr.mono (by decide)) (pa_cons (pe_ix ix_tup (pe_ix ix_tup (pv 0) pe_int (fun _ _ => rfl)) (pv 4) (fun _ _ => rfl)) (pa_cons (pe_ix ix_tup (pe_ix ix_tup (pv 0) pe_int (fun _ _ => rfl)) (pv 5) (fun _ _ => rfl)) pa_nil))) (pe_mF (pv 7) (T.cls 2) (o_parts_them_Tie T) (hr.mono (by decide)) (pa_cons (pe_ix ix_tup (pe_ix ix_tup (pv 0) pe_int (fun _ _ => rfl)) (pv 4) (fun _ _ => rfl)) (pa_cons (pe_ix ix_tup (pe_ix ix_tup (pv 0) pe_int (fun _ _ => rfl)) (pv 5) (fun _ _ => rfl)) pa_nil))))))))) (pss_one (ps_expr (pe_bm PySem.F.plainAttrs_list PySem.F.slot_list_append PySem.F.type_list_append mt_append (pv 3) (pa_cons (pe_tup (pa_cons pe_str (pa_cons (pv 4) (pa_cons (pv 5) (pa_cons (pv 6) pa_nil))))) pa_nil)))) pss_nil)))))))) (pss_one (ps_ret (pv 3)))))
theorem o_breaks (T : Tx P w K mg base) : OkF P w K mg base "breaks" 7 ["book", "rows"] (sp_breaks K (clK K)) := by
  obtain ⟨fd, F⟩ := T.s.def_ 25 (d := d_breaks) rfl
  have sc : FnScope ["book", "rows", "rules"] ["book", "rows"] (defScope s_breaks) := ⟨rfl, rfl, rfl, by decide +kernel, rfl, by decide +kernel, by decide +kernel⟩
  refine ⟨_, fd, T.g_breaks, F.kp, F.bindsN (fun _ _ _ _ _ _ us hl => match us, hl with | [_, _], _ => rfl), F.ok sc (fun vs H Q E h => spP_len (Rof.len (n := 2) fun _ => rfl) h) fun cdv A outer s H vs Q E hr h => ⟨t_breaks K (clK K), PSs.nox ?_, spP_of (tt := t_breaks) (N := ["book", "rows", "rules"]) (Rof.len (n := 2) fun _ => rfl) (by decide) (fun F hK hc ds d r => wp_breaks F ds d r) vs H Q E h⟩⟩
  exact (pss_cons (ps_set (i := 2) sc.nd rfl (by first | exact .inl rfl | exact .inr rfl) (pe_cF (o_rules_of T) (hr.mono (by decide)) (by rfl) (pa_cons (pv 0) pa_nil))) (pss_one (ps_ret (pe_callB (call_sortedQ (hu65 hr)) (by rfl) T.f_sorted bt_sorted (pa_cons (pe_op op_catL (pe_cF (o_alone_breaks T) (hr.mono (by decide)) (by rfl) (pa_cons (pv 0) (pa_cons (pv 2) (pa_cons (pv 1) pa_nil)))) (pe_cF (o_pair_breaks T) (hr.mono (by decide)) (by rfl) (pa_cons (pv 0) (pa_cons (pv 2) (pa_cons (pv 1) pa_nil))))) pa_nil)))))
theorem o_good (T : Tx P w K mg base) : OkF P w K mg base "good" 8 ["book", "rows"] (sp_good K (clK K)) := by
  obtain ⟨fd, F⟩ := T.s.def_ 26 (d := d_good) rfl
  have sc : FnScope ["book", "rows"] ["book", "rows"] (defScope s_good) := ⟨rfl, rfl, rfl, by decide +kernel, rfl, by decide +kernel, by decide +kernel⟩
  refine ⟨_, fd, T.g_good, F.kp, F.bindsN (fun _ _ _ _ _ _ us hl => match us, hl with | [_, _], _ => rfl), F.ok sc (fun vs H Q E h => spP_len (Rof.len (n := 2) fun _ => rfl) h) fun cdv A outer s H vs Q E hr h => ⟨t_good K (clK K), PSs.nox ?_, spP_of (tt := t_good) (N := ["book", "rows"]) (Rof.len (n := 2) fun _ => rfl) (by decide) (fun F hK hc ds d r => wp_good F ds d r) vs H Q E h⟩⟩
  exact (pss_one (ps_ret (pe_cmpR (op_eqD hr.units) (pe_cF (o_breaks T) (hr.mono (by decide)) (by rfl) (pa_cons (pv 0) (pa_cons (pv 1) pa_nil))) (pe_lst pa_nil) (nomark _))))
theorem o_held (T : Tx P w K mg base) : OkF P w K mg base "held" 5 ["book", "rows"] (sp_held K (clK K)) := by
  obtain ⟨fd, F⟩ := T.s.def_ 27 (d := d_held) rfl
  have sc : FnScope ["book", "rows", "rules", "left", "i", "rule", "size", "there"] ["book", "rows"] (defScope s_held) := ⟨rfl, rfl, rfl, by decide +kernel, rfl, by decide +kernel, by decide +kernel⟩
  refine ⟨_, fd, T.g_held, F.kp, F.bindsN (fun _ _ _ _ _ _ us hl => match us, hl with | [_, _], _ => rfl), F.ok sc (fun vs H Q E h => spP_len (Rof.len (n := 2) fun _ => rfl) h) fun cdv A outer s H vs Q E hr h => ⟨t_held K (clK K), PSs.nox ?_, spP_of (tt := t_held) (N := ["book", "rows", "rules", "left", "i", "rule", "size", "there"]) (Rof.len (n := 2) fun _ => rfl) (by decide) (fun F hK hc ds d r => wp_held F ds d r) vs H Q E h⟩⟩
  exact (pss_cons (ps_set (i := 2) sc.nd rfl (by first | exact .inl rfl | exact .inr rfl) (pe_cF (o_rules_of T) (hr.mono (by decide)) (by rfl) (pa_cons (pv 0) pa_nil))) (pss_cons (ps_setLc (i := 3) (own := [("i", 4)]) (g := (gName 4)) (tt := (tNot (tB (tCB (rAny K) (tCons (tLc (iList K (tVar 2)) (gName 5) tYes (tEither (tMeth (clK K 0) "bars" (sp_bars_Never K (clK K)) [] E0 (tVar 5) (tCons (tOp (rIxT K) (tOp (rIxT K) (tVar 0) (tC (.int 2))) (tVar 4)) tNil)) (tEither (tMeth (clK K 1) "bars" (sp_bars_Apart K (clK K)) [] E0 (tVar 5) (tCons (tOp (rIxT K) (tOp (rIxT K) (tVar 0) (tC (.int 2))) (tVar 4)) tNil)) (tMeth (clK K 2) "bars" (sp_bars_Tie K (clK K)) [] E0 (tVar 5) (tCons (tOp (rIxT K) (tOp (rIxT K) (tVar 0) (tC (.int 2))) (tVar 4)) tNil)))) [5]) tNil))))) rfl sc.nd rfl rfl (sw_true rfl rfl rfl (by kernel_rfl)) (pi_tup (pv 1)) (blkOk_by (own := [("i", 4)]) (by kernel_rfl)) (fun _ _ _ _ _ => (pg_name (i := 4) sc.nd rfl (by first | exact .inl rfl | exact .inr rfl))) (fun _ _ _ _ _ => (pts_one (pt_not (pt_val (pe_callB (cr_any rfl) (by rfl) T.f_any bt_any (pa_cons (pe_lc (own := [("rule", 5)]) (g := (gName 5)) (tt := tYes) rfl sc.nd (pi_list (pv 2)) (blkOk_by (own := [("rule", 5)]) (by kernel_rfl)) (fun _ _ _ _ _ => (pg_name (i := 5) sc.nd rfl (by first | exact .inl rfl | exact .inr rfl))) (fun _ _ _ _ _ => pts_nil) (fun _ _ _ _ _ => (pe_either (pe_mF (pv 5) (T.cls 0) (o_bars_Never T) (hr.mono (by decide)) (pa_cons (pe_ix ix_tup (pe_ix ix_tup (pv 0) pe_int (fun _ _ => rfl)) (pv 4) (fun _ _ => rfl)) pa_nil)) (pe_either (pe_mF (pv 5) (T.cls 1) (o_bars_Apart T) (hr.mono (by decide)) (pa_cons (pe_ix ix_tup (pe_ix ix_tup (pv 0) pe_int (fun _ _ => rfl)) (pv 4) (fun _ _ => rfl)) pa_nil)) (pe_mF (pv 5) (T.cls 2) (o_bars_Tie T) (hr.mono (by decide)) (pa_cons (pe_ix ix_tup (pe_ix ix_tup (pv 0) pe_int (fun _ _ => rfl)) (pv 4) (fun _ _ => rfl)) pa_nil)))))) pa_nil)))))) (fun _ _ _ _ _ => (pv 4))) (pss_cons (ps_set (i := 6) sc.nd rfl (by first | exact .inl rfl | exact .inr rfl) (pe_un un_neg pe_int)) (pss_cons (ps_while PassesOwn.never (pt_cmpR op_ne (pv 6) (pe_callB call_lenQ (by rfl) T.f_len bt_len (pa_cons (pv 3) pa_nil)) (nomark _)) (pss_cons (ps_set (i := 6) sc.nd rfl (by first | exact .inl rfl | exact .inr rfl) (pe_callB call_lenQ (by rfl) T.f_len bt_len (pa_cons (pv 3) pa_nil))) (pss_cons (ps_set (i := 7) sc.nd rfl (by first | exact .inl rfl | exact .inr rfl) (pe_lc (own := [("i", 4)]) (g := (gName 4)) (tt := tYes) rfl sc.nd (pi_list (pv 3)) (blkOk_by (own := [("i", 4)]) (by kernel_rfl)) (fun _ _ _ _ _ => (pg_name (i := 4) sc.nd rfl (by first | exact .inl rfl | exact .inr rfl))) (fun _ _ _ _ _ => pts_nil) (fun _ _ _ _ _ => (pe_ix ix_tup (pe_ix ix_tup (pv 0) pe_int (fun _ _ => rfl)) (pv 4) (fun _ _ => rfl))))) (pss_one (ps_setLc (i := 3) (own := [("i", 4)]) (g := (gName 4)) (tt := (tNot (tB (tCB (rAny K) (tCons (tLc (iList K (tVar 2)) (gName 5) tYes (tEither (tMeth (clK K 0) "lacks" (sp_lacks_Never K (clK K)) [] E0 (tVar 5) (tCons (tOp (rIxT K) (tOp (rIxT K) (tVar 0) (tC (.int 2))) (tVar 4)) (tCons (tVar 7) tNil))) (tEither (tMeth (clK K 1) "lacks" (sp_lacks_Apart K (clK K)) [] E0 (tVar 5) (tCons (tOp (rIxT K) (tOp (rIxT K) (tVar 0) (tC (.int 2))) (tVar 4)) (tCons (tVar 7) tNil))) (tMeth (clK K 2) "lacks" (sp_lacks_Tie K (clK K)) [] E0 (tVar 5) (tCons (tOp (rIxT K) (tOp (rIxT K) (tVar 0) (tC (.int 2))) (tVar 4)) (tCons (tVar 7) tNil))))) [5]) tNil))))) rfl sc.nd rfl rfl (sw_true rfl rfl rfl (by kernel_rfl)) (pi_list (pv 3)) (blkOk_by (own := [("i", 4)]) (by kernel_rfl)) (fun _ _ _ _ _ => (pg_name (i := 4) sc.nd rfl (by first | exact .inl rfl | exact .inr rfl))) (fun _ _ _ _ _ => (pts_one (pt_not (pt_val (pe_callB (cr_any rfl) (by rfl) T.f_any bt_any (pa_cons (pe_lc (own := [("rule", 5)]) (g := (gName 5)) (tt := tYes) rfl sc.nd (pi_list (pv 2)) (blkOk_by (own := [("rule", 5)]) (by kernel_rfl)) (fun _ _ _ _ _ => (pg_name (i := 5) sc.nd rfl (by first | exact .inl rfl | exact .inr rfl))) (fun _ _ _ _ _ => pts_nil) (fun _ _ _ _ _ => (pe_either (pe_mF (pv 5) (T.cls 0) (o_lacks_Never T) (hr.mono (by decide)) (pa_cons (pe_ix ix_tup (pe_ix ix_tup (pv 0) pe_int (fun _ _ => rfl)) (pv 4) (fun _ _ => rfl)) (pa_cons (pv 7) pa_nil))) (pe_either (pe_mF (pv 5) (T.cls 1) (o_lacks_Apart T) (hr.mono (by decide)) (pa_cons (pe_ix ix_tup (pe_ix ix_tup (pv 0) pe_int (fun _ _ => rfl)) (pv 4) (fun _ _ => rfl)) (pa_cons (pv 7) pa_nil))) (pe_mF (pv 5) (T.cls 2) (o_lacks_Tie T) (hr.mono (by decide)) (pa_cons (pe_ix ix_tup (pe_ix ix_tup (pv 0) pe_int (fun _ _ => rfl)) (pv 4) (fun _ _ => rfl)) (pa_cons (pv 7) pa_nil))))))) pa_nil)))))) (fun _ _ _ _ _ => (pv 4))))))) (pss_one (ps_ret (pe_callTy call_tupleQ (by rfl) T.f_tuple bt_tuple (pa_cons (pv 3) pa_nil))))))))
theorem o_clashes (T : Tx P w K mg base) : OkF P w K mg base "clashes" 7 ["book"] (sp_clashes K (clK K)) := by
  obtain ⟨fd, F⟩ := T.s.def_ 28 (d := d_clashes) rfl
  have sc : FnScope ["book", "pairs", "broken"] ["book"] (defScope s_clashes) := ⟨rfl, rfl, rfl, by decide +kernel, rfl, by decide +kernel, by decide +kernel⟩
  refine ⟨_, fd, T.g_clashes, F.kp, F.bindsN (fun _ _ _ _ _ _ us hl => match us, hl with | [_], _ => rfl), F.ok sc (fun vs H Q E h => spP_len (Rof.len (n := 1) fun _ => rfl) h) fun cdv A outer s H vs Q E hr h => ⟨t_clashes K (clK K), PSs.nox ?_, spP_of (tt := t_clashes) (N := ["book", "pairs", "broken"]) (Rof.len (n := 1) fun _ => rfl) (by decide) (fun F hK hc ds d r => wp_clashes F ds d r) vs H Q E h⟩⟩
  exact (pss_cons (ps_set (i := 1) sc.nd rfl (by first | exact .inl rfl | exact .inr rfl) pe_dnewT) (pss_cons (ps_for PassesOwn.never rfl (pi_list (pe_cF (o_pair_breaks T) (hr.mono (by decide)) (by rfl) (pa_cons (pv 0) (pa_cons (pe_cF (o_rules_of T) (hr.mono (by decide)) (by rfl) (pa_cons (pv 0) pa_nil)) (pa_cons (pe_cF (o_held T) (hr.mono (by decide)) (by rfl) (pa_cons (pv 0) (pa_cons (pe_tupRg rfl (by rfl) T.f_tuple (prg_1 (by rfl) T.f_range (pe_callB call_lenQ (by rfl) T.f_len bt_len (pa_cons (pe_ix ix_tup (pv 0) pe_int (fun _ _ => rfl)) pa_nil)))) pa_nil))) pa_nil))))) (pg_name (i := 2) sc.nd rfl (by first | exact .inl rfl | exact .inr rfl)) (pss_one (ps_dput (hu_of hr) (pv 1) (pe_tup (pa_cons (pe_ix ix_tup (pv 2) pe_int (fun _ _ => rfl)) (pa_cons (pe_ix ix_tup (pv 2) pe_int (fun _ _ => rfl)) pa_nil))) pe_bl rfl))) (pss_one (ps_ret (pe_callB (call_sortedDT rfl (hu65 hr)) (by rfl) T.f_sorted bt_sorted (pa_cons (pv 1) pa_nil))))))
theorem o_rows_that_clash (T : Tx P w K mg base) : OkF P w K mg base "rows_that_clash" 1 ["pairs"] (sp_rows_that_clash K (clK K)) := by
  obtain ⟨fd, F⟩ := T.s.def_ 29 (d := d_rows_that_clash) rfl
  have sc : FnScope ["pairs", "some", "i", "j"] ["pairs"] (defScope s_rows_that_clash) := ⟨rfl, rfl, rfl, by decide +kernel, rfl, by decide +kernel, by decide +kernel⟩
  refine ⟨_, fd, T.g_rows_that_clash, F.kp, F.bindsN (fun _ _ _ _ _ _ us hl => match us, hl with | [_], _ => rfl), F.ok sc (fun vs H Q E h => spP_len (Rof.len (n := 1) fun _ => rfl) h) fun cdv A outer s H vs Q E hr h => ⟨t_rows_that_clash K (clK K), PSs.nox ?_, spP_of (tt := t_rows_that_clash) (N := ["pairs", "some", "i", "j"]) (Rof.len (n := 1) fun _ => rfl) (by decide) (fun F hK hc ds d r => wp_rows_that_clash F ds d r) vs H Q E h⟩⟩
  exact (pss_cons (ps_set (i := 1) sc.nd rfl (by first | exact .inl rfl | exact .inr rfl) pe_dnewK) (pss_cons (ps_for PassesOwn.never rfl (pi_list (pv 0)) (pg_tup rfl (pgs_cons (pg_name (i := 2) sc.nd rfl (by first | exact .inl rfl | exact .inr rfl)) (pgs_cons (pg_name (i := 3) sc.nd rfl (by first | exact .inl rfl | exact .inr rfl)) pgs_nil))) (pss_cons (ps_dput (hu_of hr) (pv 1) (pv 2) pe_bl rfl) (pss_one (ps_dput (hu_of hr) (pv 1) (pv 3) pe_bl rfl)))) (pss_one (ps_ret (pe_callB (call_sortedDIQ rfl) (by rfl) T.f_sorted bt_sorted (pa_cons (pv 1) pa_nil))))))
theorem o_is_near (T : Tx P w K mg base) : OkF P w K mg base "is_near" 1 ["pairs", "i", "j"] (sp_is_near K (clK K)) := by
  obtain ⟨fd, F⟩ := T.s.def_ 30 (d := d_is_near) rfl
  have sc : FnScope ["pairs", "i", "j"] ["pairs", "i", "j"] (defScope s_is_near) := ⟨rfl, rfl, rfl, by decide +kernel, rfl, by decide +kernel, by decide +kernel⟩
  refine ⟨_, fd, T.g_is_near, F.kp, F.bindsN (fun _ _ _ _ _ _ us hl => match us, hl with | [_, _, _], _ => rfl), F.ok sc (fun vs H Q E h => spP_len (Rof.len (n := 3) fun _ => rfl) h) fun cdv A outer s H vs Q E hr h => ⟨t_is_near K (clK K), PSs.nox ?_, spP_of (tt := t_is_near) (N := ["pairs", "i", "j"]) (Rof.len (n := 3) fun _ => rfl) (by decide) (fun F hK hc ds d r => wp_is_near F ds d r) vs H Q E h⟩⟩
  exact (pss_one (ps_ret (pe_cmpR (op_inD (hu65 hr)) (pe_tup (pa_cons (pe_callB (call_min2Q rfl) (by rfl) T.f_min bt_min (pa_cons (pv 1) (pa_cons (pv 2) pa_nil))) (pa_cons (pe_callB (call_max2Q rfl) (by rfl) T.f_max bt_max (pa_cons (pv 1) (pa_cons (pv 2) pa_nil))) pa_nil))) (pv 0) (by with_unfolding_all rfl))))
theorem o_is_greatest (T : Tx P w K mg base) : OkF P w K mg base "is_greatest" 2 ["free", "rows", "pairs"] (sp_is_greatest K (clK K)) := by
  obtain ⟨fd, F⟩ := T.s.def_ 31 (d := d_is_greatest) rfl
  have sc : FnScope ["free", "rows", "pairs", "i", "j"] ["free", "rows", "pairs"] (defScope s_is_greatest) := ⟨rfl, rfl, rfl, by decide +kernel, rfl, by decide +kernel, by decide +kernel⟩
  refine ⟨_, fd, T.g_is_greatest, F.kp, F.bindsN (fun _ _ _ _ _ _ us hl => match us, hl with | [_, _, _], _ => rfl), F.ok sc (fun vs H Q E h => spP_len (Rof.len (n := 3) fun _ => rfl) h) fun cdv A outer s H vs Q E hr h => ⟨t_is_greatest K (clK K), PSs.nox ?_, spP_of (tt := t_is_greatest) (N := ["free", "rows", "pairs", "i", "j"]) (Rof.len (n := 3) fun _ => rfl) (by decide) (fun F hK hc ds d r => wp_is_greatest F ds d r) vs H Q E h⟩⟩
  exact (pss_cons (ps_for PassesOwn.never rfl (pi_list (pv 1)) (pg_name (i := 3) sc.nd rfl (by first | exact .inl rfl | exact .inr rfl)) (pss_one (ps_if (PW.pt (pw_and (pt_cmpR op_notIn_seq (pv 3) (pv 0) (by with_unfolding_all rfl)) (pw_and1 (pt_not (pt_val (pe_callB (cr_any rfl) (by rfl) T.f_any bt_any (pa_cons (pe_lc (own := [("j", 4)]) (g := (gName 4)) (tt := tYes) rfl sc.nd (pi_tup (pv 0)) (blkOk_by (own := [("j", 4)]) (by kernel_rfl)) (fun _ _ _ _ _ => (pg_name (i := 4) sc.nd rfl (by first | exact .inl rfl | exact .inr rfl))) (fun _ _ _ _ _ => pts_nil) (fun _ _ _ _ _ => (pe_cF (o_is_near T) (hr.mono (by decide)) (by rfl) (pa_cons (pv 2) (pa_cons (pv 3) (pa_cons (pv 4) pa_nil)))))) pa_nil))))))) (pss_one (ps_ret pe_bl)) pss_nil))) (pss_one (ps_ret pe_bl)))
theorem o_free_sets (T : Tx P w K mg base) : OkF P w K mg base "free_sets" 3 ["rows", "pairs"] (sp_free_sets K (clK K)) := by
  obtain ⟨fd, F⟩ := T.s.def_ 32 (d := d_free_sets) rfl
  have sc : FnScope ["rows", "pairs", "found", "at", "i", "more", "free", "rest", "j"] ["rows", "pairs"] (defScope s_free_sets) := ⟨rfl, rfl, rfl, by decide +kernel, rfl, by decide +kernel, by decide +kernel⟩
  refine ⟨_, fd, T.g_free_sets, F.kp, F.bindsN (fun _ _ _ _ _ _ us hl => match us, hl with | [_, _], _ => rfl), F.ok sc (fun vs H Q E h => spP_len (Rof.len (n := 2) fun _ => rfl) h) fun cdv A outer s H vs Q E hr h => ⟨t_free_sets K (clK K), PSs.nox ?_, spP_of (tt := t_free_sets) (N := ["rows", "pairs", "found", "at", "i", "more", "free", "rest", "j"]) (Rof.len (n := 2) fun _ => rfl) (by decide) (fun F hK hc ds d r => wp_free_sets F ds d r) vs H Q E h⟩⟩
  exact (pss_cons (ps_set (i := 2) sc.nd rfl (by first | exact .inl rfl | exact .inr rfl) (pe_lst (pa_cons (pe_tup pa_nil) pa_nil))) (pss_cons (ps_for PassesOwn.never rfl (pi_enum (by rfl) T.f_enumerate (pa_cons (pv 0) pa_nil)) (pg_tup rfl (pgs_cons (pg_name (i := 3) sc.nd rfl (by first | exact .inl rfl | exact .inr rfl)) (pgs_cons (pg_name (i := 4) sc.nd rfl (by first | exact .inl rfl | exact .inr rfl)) pgs_nil))) (pss_cons (ps_set (i := 5) sc.nd rfl (by first | exact .inl rfl | exact .inr rfl) pe_dnewT) (pss_cons (ps_for PassesOwn.never rfl (pi_list (pv 2)) (pg_name (i := 6) sc.nd rfl (by first | exact .inl rfl | exact .inr rfl)) (pss_cons (ps_set (i := 7) sc.nd rfl (by first | exact .inl rfl | exact .inr rfl) (pe_callTy call_tupleQ (by rfl) T.f_tuple bt_tuple (pa_cons (pe_lc (own := [("j", 8)]) (g := (gName 8)) (tt := (tNot (tB (tCall (sp_is_near K (clK K)) [] E0 (tCons (tVar 1) (tCons (tVar 4) (tCons (tVar 8) tNil))))))) rfl sc.nd (pi_tup (pv 6)) (blkOk_by (own := [("j", 8)]) (by kernel_rfl)) (fun _ _ _ _ _ => (pg_name (i := 8) sc.nd rfl (by first | exact .inl rfl | exact .inr rfl))) (fun _ _ _ _ _ => (pts_one (pt_not (pt_val (pe_cF (o_is_near T) (hr.mono (by decide)) (by rfl) (pa_cons (pv 1) (pa_cons (pv 4) (pa_cons (pv 8) pa_nil)))))))) (fun _ _ _ _ _ => (pv 8))) pa_nil))) (pss_cons (ps_if (pt_cmpR op_lt (pe_callB call_lenQ (by rfl) T.f_len bt_len (pa_cons (pv 7) pa_nil)) (pe_callB call_lenQ (by rfl) T.f_len bt_len (pa_cons (pv 6) pa_nil)) (nomark _)) (pss_one (ps_dput (hu_of hr) (pv 5) (pv 6) pe_bl rfl)) pss_nil) (pss_one (ps_if (PW.pt (pw_or (pt_cmpR op_eq (pe_callB call_lenQ (by rfl) T.f_len bt_len (pa_cons (pv 7) pa_nil)) (pe_callB call_lenQ (by rfl) T.f_len bt_len (pa_cons (pv 6) pa_nil)) (nomark _)) (pw_or1 (pt_val (pe_cF (o_is_greatest T) (hr.mono (by decide)) (by rfl) (pa_cons (pe_op op_catA (pv 7) (pe_tup (pa_cons (pv 4) pa_nil))) (pa_cons (pe_slice sl_list (pv 0) po_none (po_some (pv 3))) (pa_cons (pv 1) pa_nil)))))))) (pss_one (ps_dput (hu_of hr) (pv 5) (pe_op op_catA (pv 7) (pe_tup (pa_cons (pv 4) pa_nil))) pe_bl rfl)) pss_nil))))) (pss_one (ps_set (i := 2) sc.nd rfl (by first | exact .inl rfl | exact .inr rfl) (pe_callTy (call_list_dT rfl) (by rfl) T.f_list bt_list (pa_cons (pv 5) pa_nil))))))) (pss_one (ps_ret (pv 2)))))
theorem o_as_bits (T : Tx P w K mg base) : OkF P w K mg base "as_bits" 1 ["rows"] (sp_as_bits K (clK K)) := by
  obtain ⟨fd, F⟩ := T.s.def_ 33 (d := d_as_bits) rfl
  have sc : FnScope ["rows", "total", "i"] ["rows"] (defScope s_as_bits) := ⟨rfl, rfl, rfl, by decide +kernel, rfl, by decide +kernel, by decide +kernel⟩
  refine ⟨_, fd, T.g_as_bits, F.kp, F.bindsN (fun _ _ _ _ _ _ us hl => match us, hl with | [_], _ => rfl), F.ok sc (fun vs H Q E h => spP_len (Rof.len (n := 1) fun _ => rfl) h) fun cdv A outer s H vs Q E hr h => ⟨t_as_bits K (clK K), PSs.nox ?_, spP_of (tt := t_as_bits) (N := ["rows", "total", "i"]) (Rof.len (n := 1) fun _ => rfl) (by decide) (fun F hK hc ds d r => wp_as_bits F ds d r) vs H Q E h⟩⟩
  exact (pss_cons (ps_set (i := 1) sc.nd rfl (by first | exact .inl rfl | exact .inr rfl) pe_int) (pss_cons (ps_for PassesOwn.never rfl (pi_tup (pv 0)) (pg_name (i := 2) sc.nd rfl (by first | exact .inl rfl | exact .inr rfl)) (pss_one (ps_set (i := 1) sc.nd rfl (by first | exact .inl rfl | exact .inr rfl) (pe_op op_or (pv 1) (pe_op op_shl pe_int (pv 2)))))) (pss_one (ps_ret (pv 1)))))
theorem o_greatest_ones (T : Tx P w K mg base) : OkF P w K mg base "greatest_ones" 2 ["some"] (sp_greatest_ones K (clK K)) := by
  obtain ⟨fd, F⟩ := T.s.def_ 34 (d := d_greatest_ones) rfl
  have sc : FnScope ["some", "by_bits", "rows", "left", "bits", "other"] ["some"] (defScope s_greatest_ones) := ⟨rfl, rfl, rfl, by decide +kernel, rfl, by decide +kernel, by decide +kernel⟩
  refine ⟨_, fd, T.g_greatest_ones, F.kp, F.bindsN (fun _ _ _ _ _ _ us hl => match us, hl with | [_], _ => rfl), F.ok sc (fun vs H Q E h => spP_len (Rof.len (n := 1) fun _ => rfl) h) fun cdv A outer s H vs Q E hr h => ⟨t_greatest_ones K (clK K), PSs.nox ?_, spP_of (tt := t_greatest_ones) (N := ["some", "by_bits", "rows", "left", "bits", "other"]) (Rof.len (n := 1) fun _ => rfl) (by decide) (fun F hK hc ds d r => wp_greatest_ones F ds d r) vs H Q E h⟩⟩
  exact (pss_cons (ps_set (i := 1) sc.nd rfl (by first | exact .inl rfl | exact .inr rfl) pe_dnewK) (pss_cons (ps_for PassesOwn.never rfl (pi_list (pv 0)) (pg_name (i := 2) sc.nd rfl (by first | exact .inl rfl | exact .inr rfl)) (pss_one (ps_dput (hu_of hr) (pv 1) (pe_cF (o_as_bits T) (hr.mono (by decide)) (by rfl) (pa_cons (pv 2) pa_nil)) (pv 2) rfl))) (pss_cons (ps_set (i := 3) sc.nd rfl (by first | exact .inl rfl | exact .inr rfl) (pe_lst pa_nil)) (pss_cons (ps_lock (ps_for PassesOwn.never rfl (pi_keys (pv 1)) (pg_name (i := 4) sc.nd rfl (by first | exact .inl rfl | exact .inr rfl)) (pss_one (ps_if (pt_not (pt_val (pe_callB (cr_any rfl) (by rfl) T.f_any bt_any (pa_cons (pe_lc (own := [("other", 5)]) (g := (gName 5)) (tt := tYes) rfl sc.nd (pi_keys (pv 1)) (blkOk_by (own := [("other", 5)]) (by kernel_rfl)) (fun _ _ _ _ _ => (pg_name (i := 5) sc.nd rfl (by first | exact .inl rfl | exact .inr rfl))) (fun _ _ _ _ _ => pts_nil) (fun _ _ _ _ _ => (pe_and (pe_cmpR op_ne (pv 4) (pv 5) (nomark _)) (pe_one (pe_cmpR op_eq (pe_op op_and (pv 4) (pv 5)) (pv 4) (nomark _)))))) pa_nil)))) (pss_one (ps_expr (pe_bm PySem.F.plainAttrs_list PySem.F.slot_list_append PySem.F.type_list_append mt_append (pv 3) (pa_cons (pe_dget (hu_of hr) (pv 1) (pv 4) (fun _ _ => rfl)) pa_nil)))) pss_nil)))) (pss_one (ps_ret (pv 3)))))))
theorem o_mended (T : Tx P w K mg base) : OkF P w K mg base "mended" 8 ["book"] (sp_mended K (clK K)) := by
  obtain ⟨fd, F⟩ := T.s.def_ 35 (d := d_mended) rfl
  obtain ⟨t_MOST_CLASHING, h_MOST_CLASHING⟩ := T.k_MOST_CLASHING
  have sc : FnScope ["book", "pairs", "rows", "others", "i", "some", "free"] ["book"] (defScope s_mended) := ⟨rfl, rfl, rfl, by decide +kernel, rfl, by decide +kernel, by decide +kernel⟩
  refine ⟨_, fd, T.g_mended, F.kp, F.bindsN (fun _ _ _ _ _ _ us hl => match us, hl with | [_], _ => rfl), F.ok sc (fun vs H Q E h => spP_len (Rof.len (n := 1) fun _ => rfl) h) fun cdv A outer s H vs Q E hr h => ⟨t_mended K (clK K), PSs.nox ?_, spP_of (tt := t_mended) (N := ["book", "pairs", "rows", "others", "i", "some", "free"]) (Rof.len (n := 1) fun _ => rfl) (by decide) (fun F hK hc ds d r => wp_mended F ds d r) vs H Q E h⟩⟩
  exact (pss_cons (ps_set (i := 1) sc.nd rfl (by first | exact .inl rfl | exact .inr rfl) (pe_cF (o_clashes T) (hr.mono (by decide)) (by rfl) (pa_cons (pv 0) pa_nil))) (pss_cons (ps_set (i := 2) sc.nd rfl (by first | exact .inl rfl | exact .inr rfl) (pe_cF (o_rows_that_clash T) (hr.mono (by decide)) (by rfl) (pa_cons (pv 1) pa_nil))) (pss_cons (ps_if (pt_cmpR op_gt (pe_callB call_lenQ (by rfl) T.f_len bt_len (pa_cons (pv 2) pa_nil)) (pe_glob (by rfl) h_MOST_CLASHING ⟨_, rfl⟩) (nomark _)) (pss_one ps_never) pss_nil) (pss_cons (ps_set (i := 3) sc.nd rfl (by first | exact .inl rfl | exact .inr rfl) (pe_lc (own := [("i", 4)]) (g := (gName 4)) (tt := (tTest (tOp (rIn K true) (tVar 4) (tVar 2)))) rfl sc.nd (pi_tup (pe_cF (o_held T) (hr.mono (by decide)) (by rfl) (pa_cons (pv 0) (pa_cons (pe_tupRg rfl (by rfl) T.f_tuple (prg_1 (by rfl) T.f_range (pe_callB call_lenQ (by rfl) T.f_len bt_len (pa_cons (pe_ix ix_tup (pv 0) pe_int (fun _ _ => rfl)) pa_nil)))) pa_nil)))) (blkOk_by (own := [("i", 4)]) (by kernel_rfl)) (fun _ _ _ _ _ => (pg_name (i := 4) sc.nd rfl (by first | exact .inl rfl | exact .inr rfl))) (fun _ _ _ _ _ => (pts_one (pt_cmpR op_notIn_seq (pv 4) (pv 2) (by with_unfolding_all rfl)))) (fun _ _ _ _ _ => (pv 4)))) (pss_cons (ps_setLc (i := 5) (own := [("free", 6)]) (g := (gName 6)) (tt := tYes) rfl sc.nd rfl rfl (sw_true rfl rfl rfl (by kernel_rfl)) (pi_list (pe_cF (o_free_sets T) (hr.mono (by decide)) (by rfl) (pa_cons (pv 2) (pa_cons (pv 1) pa_nil)))) (blkOk_by (own := [("free", 6)]) (by kernel_rfl)) (fun _ _ _ _ _ => (pg_name (i := 6) sc.nd rfl (by first | exact .inl rfl | exact .inr rfl))) (fun _ _ _ _ _ => pts_nil) (fun _ _ _ _ _ => (pe_cF (o_held T) (hr.mono (by decide)) (by rfl) (pa_cons (pv 0) (pa_cons (pe_callTy call_tupleQ (by rfl) T.f_tuple bt_tuple (pa_cons (pe_callB cr_sorted (by rfl) T.f_sorted bt_sorted (pa_cons (pe_op op_catL (pe_callTy call_listQ (by rfl) T.f_list bt_list (pa_cons (pv 6) pa_nil)) (pv 3)) pa_nil)) pa_nil)) pa_nil))))) (pss_one (ps_ret (pe_callB (call_sortedQ (hu65 hr)) (by rfl) T.f_sorted bt_sorted (pa_cons (pe_cF (o_greatest_ones T) (hr.mono (by decide)) (by rfl) (pa_cons (pv 5) pa_nil)) pa_nil)))))))))
theorem o_many_mended (T : Tx P w K mg base) : OkF P w K mg base "many_mended" 9 ["book"] (sp_many_mended K (clK K)) := by
  obtain ⟨fd, F⟩ := T.s.def_ 36 (d := d_many_mended) rfl
  have sc : FnScope ["book"] ["book"] (defScope s_many_mended) := ⟨rfl, rfl, rfl, by decide +kernel, rfl, by decide +kernel, by decide +kernel⟩
  refine ⟨_, fd, T.g_many_mended, F.kp, F.bindsN (fun _ _ _ _ _ _ us hl => match us, hl with | [_], _ => rfl), F.ok sc (fun vs H Q E h => spP_len (Rof.len (n := 1) fun _ => rfl) h) fun cdv A outer s H vs Q E hr h => ⟨t_many_mended K (clK K), PSs.nox ?_, spP_of (tt := t_many_mended) (N := ["book"]) (Rof.len (n := 1) fun _ => rfl) (by decide) (fun F hK hc ds d r => wp_many_mended F ds d r) vs H Q E h⟩⟩
  exact (pss_one (ps_ret (pe_callB call_lenQ (by rfl) T.f_len bt_len (pa_cons (pe_cF (o_mended T) (hr.mono (by decide)) (by rfl) (pa_cons (pv 0) pa_nil)) pa_nil))))
theorem o_mended_at (T : Tx P w K mg base) : OkF P w K mg base "mended_at" 9 ["book", "number"] (sp_mended_at K (clK K)) := by
  obtain ⟨fd, F⟩ := T.s.def_ 37 (d := d_mended_at) rfl
  have sc : FnScope ["book", "number", "some"] ["book", "number"] (defScope s_mended_at) := ⟨rfl, rfl, rfl, by decide +kernel, rfl, by decide +kernel, by decide +kernel⟩
  refine ⟨_, fd, T.g_mended_at, F.kp, F.bindsN (fun _ _ _ _ _ _ us hl => match us, hl with | [_, _], _ => rfl), F.ok sc (fun vs H Q E h => spP_len (Rof.len (n := 2) fun _ => rfl) h) fun cdv A outer s H vs Q E hr h => ⟨t_mended_at K (clK K), PSs.nox ?_, spP_of (tt := t_mended_at) (N := ["book", "number", "some"]) (Rof.len (n := 2) fun _ => rfl) (by decide) (fun F hK hc ds d r => wp_mended_at F ds d r) vs H Q E h⟩⟩
  exact (pss_cons (ps_set (i := 2) sc.nd rfl (by first | exact .inl rfl | exact .inr rfl) (pe_cF (o_mended T) (hr.mono (by decide)) (by rfl) (pa_cons (pv 0) pa_nil))) (pss_cons (ps_if (pt_not (pt_chain op_le op_lt pe_int (pv 1) (pe_callB call_lenQ (by rfl) T.f_len bt_len (pa_cons (pv 2) pa_nil)))) (pss_one ps_never) pss_nil) (pss_one (ps_ret (pe_ix ix_list (pv 2) (pv 1) (fun _ _ => rfl))))))
theorem o_is_mended (T : Tx P w K mg base) : OkF P w K mg base "is_mended" 9 ["book", "rows"] (sp_is_mended K (clK K)) := by
  obtain ⟨fd, F⟩ := T.s.def_ 38 (d := d_is_mended) rfl
  have sc : FnScope ["book", "rows"] ["book", "rows"] (defScope s_is_mended) := ⟨rfl, rfl, rfl, by decide +kernel, rfl, by decide +kernel, by decide +kernel⟩
  refine ⟨_, fd, T.g_is_mended, F.kp, F.bindsN (fun _ _ _ _ _ _ us hl => match us, hl with | [_, _], _ => rfl), F.ok sc (fun vs H Q E h => spP_len (Rof.len (n := 2) fun _ => rfl) h) fun cdv A outer s H vs Q E hr h => ⟨t_is_mended K (clK K), PSs.nox ?_, spP_of (tt := t_is_mended) (N := ["book", "rows"]) (Rof.len (n := 2) fun _ => rfl) (by decide) (fun F hK hc ds d r => wp_is_mended F ds d r) vs H Q E h⟩⟩
  exact (pss_one (ps_ret (pe_cmpR (op_inD (hu65 hr)) (pv 1) (pe_cF (o_mended T) (hr.mono (by decide)) (by rfl) (pa_cons (pv 0) pa_nil)) (by with_unfolding_all rfl))))
theorem o_number_of (T : Tx P w K mg base) : OkF P w K mg base "number_of" 1 ["value"] (sp_number_of K (clK K)) := by
  obtain ⟨fd, F⟩ := T.s.def_ 39 (d := d_number_of) rfl
  have sc : FnScope ["value"] ["value"] (defScope s_number_of) := ⟨rfl, rfl, rfl, by decide +kernel, rfl, by decide +kernel, by decide +kernel⟩
  refine ⟨_, fd, T.g_number_of, F.kp, F.bindsN (fun _ _ _ _ _ _ us hl => match us, hl with | [_], _ => rfl), F.ok sc (fun vs H Q E h => spP_len (Rof.len (n := 1) fun _ => rfl) h) fun cdv A outer s H vs Q E hr h => ⟨t_number_of K (clK K), PSs.nox ?_, spP_of (tt := t_number_of) (N := ["value"]) (Rof.len (n := 1) fun _ => rfl) (by decide) (fun F hK hc ds d r => wp_number_of F ds d r) vs H Q E h⟩⟩
  exact (pss_cons (ps_if (pt_val (pe_callB call_isi (by rfl) T.f_isinstance bt_isinstance (pa_cons (pv 0) (pa_cons (pe_bltn (v := V.ty "str") (by rfl) T.f_str bt_str rfl) pa_nil)))) (pss_one (ps_ret pe_int)) pss_nil) (pss_one (ps_ret (pv 0))))
theorem o_worth (T : Tx P w K mg base) : OkF P w K mg base "worth" 2 ["book", "place", "t", "c"] (sp_worth K (clK K)) := by
  obtain ⟨fd, F⟩ := T.s.def_ 40 (d := d_worth) rfl
  have sc : FnScope ["book", "place", "t", "c", "there", "cells"] ["book", "place", "t", "c"] (defScope s_worth) := ⟨rfl, rfl, rfl, by decide +kernel, rfl, by decide +kernel, by decide +kernel⟩
  refine ⟨_, fd, T.g_worth, F.kp, F.bindsN (fun _ _ _ _ _ _ us hl => match us, hl with | [_, _, _, _], _ => rfl), F.ok sc (fun vs H Q E h => spP_len (Rof.len (n := 4) fun _ => rfl) h) fun cdv A outer s H vs Q E hr h => ⟨t_worth K (clK K), PSs.nox ?_, spP_of (tt := t_worth) (N := ["book", "place", "t", "c", "there", "cells"]) (Rof.len (n := 4) fun _ => rfl) (by decide) (fun F hK hc ds d r => wp_worth F ds d r) vs H Q E h⟩⟩
  exact (pss_cons (ps_asg (pe_ix ix_tup (pe_ix ix_tup (pv 0) pe_int (fun _ _ => rfl)) (pv 1) (fun _ _ => rfl)) (pg_tup rfl (pgs_cons (pg_name (i := 4) sc.nd rfl (by first | exact .inl rfl | exact .inr rfl)) (pgs_cons (pg_name (i := 5) sc.nd rfl (by first | exact .inl rfl | exact .inr rfl)) pgs_nil)))) (pss_cons (ps_if (pt_cmpR op_ne (pv 4) (pv 2) (nomark _)) (pss_one (ps_ret pe_int)) pss_nil) (pss_one (ps_ret (pe_cF (o_number_of T) (hr.mono (by decide)) (by rfl) (pa_cons (pe_ix ix_tup (pv 5) (pv 3) (fun _ _ => rfl)) pa_nil))))))
theorem o_check_column (T : Tx P w K mg base) : OkF P w K mg base "check_column" 1 ["book", "t", "c"] (sp_check_column K (clK K)) := by
  obtain ⟨fd, F⟩ := T.s.def_ 41 (d := d_check_column) rfl
  have sc : FnScope ["book", "t", "c"] ["book", "t", "c"] (defScope s_check_column) := ⟨rfl, rfl, rfl, by decide +kernel, rfl, by decide +kernel, by decide +kernel⟩
  refine ⟨_, fd, T.g_check_column, F.kp, F.bindsN (fun _ _ _ _ _ _ us hl => match us, hl with | [_, _, _], _ => rfl), F.ok sc (fun vs H Q E h => spP_len (Rof.len (n := 3) fun _ => rfl) h) fun cdv A outer s H vs Q E hr h => ⟨t_check_column K (clK K), PSs.nox ?_, spP_of (tt := t_check_column) (N := ["book", "t", "c"]) (Rof.len (n := 3) fun _ => rfl) (by decide) (fun F hK hc ds d r => wp_check_column F ds d r) vs H Q E h⟩⟩
  exact (pss_one (ps_if (PW.pt (pw_or (pt_not (pt_chain op_le op_lt pe_int (pv 1) (pe_callB call_lenQ (by rfl) T.f_len bt_len (pa_cons (pe_ix ix_tup (pv 0) pe_int (fun _ _ => rfl)) pa_nil)))) (pw_or1 (pt_not (pt_chain op_le op_lt pe_int (pv 2) (pe_ix ix_tup (pe_ix ix_tup (pe_ix ix_tup (pv 0) pe_int (fun _ _ => rfl)) (pv 1) (fun _ _ => rfl)) pe_int (fun _ _ => rfl))))))) (pss_one ps_never) pss_nil))
theorem o_sum_in (T : Tx P w K mg base) : OkF P w K mg base "sum_in" 3 ["book", "rows", "t", "c"] (sp_sum_in K (clK K)) := by
  obtain ⟨fd, F⟩ := T.s.def_ 42 (d := d_sum_in) rfl
  have sc : FnScope ["book", "rows", "t", "c", "place"] ["book", "rows", "t", "c"] (defScope s_sum_in) := ⟨rfl, rfl, rfl, by decide +kernel, rfl, by decide +kernel, by decide +kernel⟩
  refine ⟨_, fd, T.g_sum_in, F.kp, F.bindsN (fun _ _ _ _ _ _ us hl => match us, hl with | [_, _, _, _], _ => rfl), F.ok sc (fun vs H Q E h => spP_len (Rof.len (n := 4) fun _ => rfl) h) fun cdv A outer s H vs Q E hr h => ⟨t_sum_in K (clK K), PSs.nox ?_, spP_of (tt := t_sum_in) (N := ["book", "rows", "t", "c", "place"]) (Rof.len (n := 4) fun _ => rfl) (by decide) (fun F hK hc ds d r => wp_sum_in F ds d r) vs H Q E h⟩⟩
  exact (pss_cons (ps_expr (pe_cF (o_check_column T) (hr.mono (by decide)) (by rfl) (pa_cons (pv 0) (pa_cons (pv 2) (pa_cons (pv 3) pa_nil))))) (pss_one (ps_ret (pe_callB (cr_sum rfl) (by rfl) T.f_sum bt_sum (pa_cons (pe_lc (own := [("place", 4)]) (g := (gName 4)) (tt := tYes) rfl sc.nd (pi_tup (pv 1)) (blkOk_by (own := [("place", 4)]) (by kernel_rfl)) (fun _ _ _ _ _ => (pg_name (i := 4) sc.nd rfl (by first | exact .inl rfl | exact .inr rfl))) (fun _ _ _ _ _ => pts_nil) (fun _ _ _ _ _ => (pe_cF (o_worth T) (hr.mono (by decide)) (by rfl) (pa_cons (pv 0) (pa_cons (pv 4) (pa_cons (pv 2) (pa_cons (pv 3) pa_nil))))))) pa_nil)))))
theorem o_best_of (T : Tx P w K mg base) : OkF P w K mg base "best_of" 3 ["book", "block", "t", "c", "sign"] (sp_best_of K (clK K)) := by
  obtain ⟨fd, F⟩ := T.s.def_ 43 (d := d_best_of) rfl
  have sc : FnScope ["book", "block", "t", "c", "sign", "found", "place"] ["book", "block", "t", "c", "sign"] (defScope s_best_of) := ⟨rfl, rfl, rfl, by decide +kernel, rfl, by decide +kernel, by decide +kernel⟩
  refine ⟨_, fd, T.g_best_of, F.kp, F.bindsN (fun _ _ _ _ _ _ us hl => match us, hl with | [_, _, _, _, _], _ => rfl), F.ok sc (fun vs H Q E h => spP_len (Rof.len (n := 5) fun _ => rfl) h) fun cdv A outer s H vs Q E hr h => ⟨t_best_of K (clK K), PSs.nox ?_, spP_of (tt := t_best_of) (N := ["book", "block", "t", "c", "sign", "found", "place"]) (Rof.len (n := 5) fun _ => rfl) (by decide) (fun F hK hc ds d r => wp_best_of F ds d r) vs H Q E h⟩⟩
  exact (pss_cons (ps_set (i := 5) sc.nd rfl (by first | exact .inl rfl | exact .inr rfl) (pe_ix ix_list (pv 1) pe_int (fun _ _ => rfl))) (pss_cons (ps_for PassesOwn.never rfl (pi_list (pv 1)) (pg_name (i := 6) sc.nd rfl (by first | exact .inl rfl | exact .inr rfl)) (pss_one (ps_if (pt_cmpR op_gt (pe_op op_mulW (pv 4) (pe_cF (o_worth T) (hr.mono (by decide)) (by rfl) (pa_cons (pv 0) (pa_cons (pv 6) (pa_cons (pv 2) (pa_cons (pv 3) pa_nil)))))) (pe_op op_mulW (pv 4) (pe_cF (o_worth T) (hr.mono (by decide)) (by rfl) (pa_cons (pv 0) (pa_cons (pv 5) (pa_cons (pv 2) (pa_cons (pv 3) pa_nil)))))) (nomark _)) (pss_one (ps_set (i := 5) sc.nd rfl (by first | exact .inl rfl | exact .inr rfl) (pv 6))) pss_nil))) (pss_one (ps_ret (pv 5)))))
theorem o_sums_by_blocks (T : Tx P w K mg base) : OkF P w K mg base "sums_by_blocks" 5 ["book", "t", "c"] (sp_sums_by_blocks K (clK K)) := by
  obtain ⟨fd, F⟩ := T.s.def_ 44 (d := d_sums_by_blocks) rfl
  have sc : FnScope ["book", "t", "c", "told", "sign", "rows", "block"] ["book", "t", "c"] (defScope s_sums_by_blocks) := ⟨rfl, rfl, rfl, by decide +kernel, rfl, by decide +kernel, by decide +kernel⟩
  refine ⟨_, fd, T.g_sums_by_blocks, F.kp, F.bindsN (fun _ _ _ _ _ _ us hl => match us, hl with | [_, _, _], _ => rfl), F.ok sc (fun vs H Q E h => spP_len (Rof.len (n := 3) fun _ => rfl) h) fun cdv A outer s H vs Q E hr h => ⟨t_sums_by_blocks K (clK K), PSs.nox ?_, spP_of (tt := t_sums_by_blocks) (N := ["book", "t", "c", "told", "sign", "rows", "block"]) (Rof.len (n := 3) fun _ => rfl) (by decide) (fun F hK hc ds d r => wp_sums_by_blocks F ds d r) vs H Q E h⟩⟩
  exact (pss_cons (ps_set (i := 3) sc.nd rfl (by first | exact .inl rfl | exact .inr rfl) (pe_tup pa_nil)) (pss_cons (ps_for PassesOwn.never rfl (pi_tup (pe_tup (pa_cons (pe_un un_neg pe_int) (pa_cons pe_int pa_nil)))) (pg_name (i := 4) sc.nd rfl (by first | exact .inl rfl | exact .inr rfl)) (pss_cons (ps_set (i := 5) sc.nd rfl (by first | exact .inl rfl | exact .inr rfl) (pe_callTy call_tupleQ (by rfl) T.f_tuple bt_tuple (pa_cons (pe_callB cr_sorted (by rfl) T.f_sorted bt_sorted (pa_cons (pe_lc (own := [("block", 6)]) (g := (gName 6)) (tt := tYes) rfl sc.nd (pi_list (pe_cF (o_blocks T) (hr.mono (by decide)) (by rfl) (pa_cons (pv 0) pa_nil))) (blkOk_by (own := [("block", 6)]) (by kernel_rfl)) (fun _ _ _ _ _ => (pg_name (i := 6) sc.nd rfl (by first | exact .inl rfl | exact .inr rfl))) (fun _ _ _ _ _ => pts_nil) (fun _ _ _ _ _ => (pe_cF (o_best_of T) (hr.mono (by decide)) (by rfl) (pa_cons (pv 0) (pa_cons (pv 6) (pa_cons (pv 1) (pa_cons (pv 2) (pa_cons (pv 4) pa_nil)))))))) pa_nil)) pa_nil))) (pss_one (ps_set (i := 3) sc.nd rfl (by first | exact .inl rfl | exact .inr rfl) (pe_op op_catA (pv 3) (pe_tup (pa_cons (pe_cF (o_sum_in T) (hr.mono (by decide)) (by rfl) (pa_cons (pv 0) (pa_cons (pv 5) (pa_cons (pv 1) (pa_cons (pv 2) pa_nil))))) (pa_cons (pv 5) pa_nil)))))))) (pss_one (ps_ret (pv 3)))))
theorem o_sums_through (T : Tx P w K mg base) : OkF P w K mg base "sums_through" 9 ["book", "t", "c"] (sp_sums_through K (clK K)) := by
  obtain ⟨fd, F⟩ := T.s.def_ 45 (d := d_sums_through) rfl
  have sc : FnScope ["book", "t", "c", "some", "totals", "rows", "least", "greatest"] ["book", "t", "c"] (defScope s_sums_through) := ⟨rfl, rfl, rfl, by decide +kernel, rfl, by decide +kernel, by decide +kernel⟩
  refine ⟨_, fd, T.g_sums_through, F.kp, F.bindsN (fun _ _ _ _ _ _ us hl => match us, hl with | [_, _, _], _ => rfl), F.ok sc (fun vs H Q E h => spP_len (Rof.len (n := 3) fun _ => rfl) h) fun cdv A outer s H vs Q E hr h => ⟨t_sums_through K (clK K), PSs.nox ?_, spP_of (tt := t_sums_through) (N := ["book", "t", "c", "some", "totals", "rows", "least", "greatest"]) (Rof.len (n := 3) fun _ => rfl) (by decide) (fun F hK hc ds d r => wp_sums_through F ds d r) vs H Q E h⟩⟩
  exact (pss_cons (ps_set (i := 3) sc.nd rfl (by first | exact .inl rfl | exact .inr rfl) (pe_cF (o_mended T) (hr.mono (by decide)) (by rfl) (pa_cons (pv 0) pa_nil))) (pss_cons (ps_setLc (i := 4) (own := [("rows", 5)]) (g := (gName 5)) (tt := tYes) rfl sc.nd rfl rfl (sw_true rfl rfl rfl (by kernel_rfl)) (pi_list (pv 3)) (blkOk_by (own := [("rows", 5)]) (by kernel_rfl)) (fun _ _ _ _ _ => (pg_name (i := 5) sc.nd rfl (by first | exact .inl rfl | exact .inr rfl))) (fun _ _ _ _ _ => pts_nil) (fun _ _ _ _ _ => (pe_cF (o_sum_in T) (hr.mono (by decide)) (by rfl) (pa_cons (pv 0) (pa_cons (pv 5) (pa_cons (pv 1) (pa_cons (pv 2) pa_nil))))))) (pss_cons (ps_set (i := 6) sc.nd rfl (by first | exact .inl rfl | exact .inr rfl) (pe_callB (cr_min rfl) (by rfl) T.f_min bt_min (pa_cons (pv 4) pa_nil))) (pss_cons (ps_set (i := 7) sc.nd rfl (by first | exact .inl rfl | exact .inr rfl) (pe_callB (cr_max rfl) (by rfl) T.f_max bt_max (pa_cons (pv 4) pa_nil))) (pss_one (ps_ret (pe_tup (pa_cons (pv 6) (pa_cons (pe_ix ix_list (pv 3) (pe_bm PySem.F.plainAttrs_list PySem.F.slot_list_index PySem.F.type_list_index mt_index (pv 4) (pa_cons (pv 6) pa_nil)) (fun _ _ => rfl)) (pa_cons (pv 7) (pa_cons (pe_ix ix_list (pv 3) (pe_bm PySem.F.plainAttrs_list PySem.F.slot_list_index PySem.F.type_list_index mt_index (pv 4) (pa_cons (pv 7) pa_nil)) (fun _ _ => rfl)) pa_nil)))))))))))
theorem o_sums (T : Tx P w K mg base) : OkF P w K mg base "sums" 10 ["book", "t", "c"] (sp_sums K (clK K)) := by
  obtain ⟨fd, F⟩ := T.s.def_ 46 (d := d_sums) rfl
  have sc : FnScope ["book", "t", "c"] ["book", "t", "c"] (defScope s_sums) := ⟨rfl, rfl, rfl, by decide +kernel, rfl, by decide +kernel, by decide +kernel⟩
  refine ⟨_, fd, T.g_sums, F.kp, F.bindsN (fun _ _ _ _ _ _ us hl => match us, hl with | [_, _, _], _ => rfl), F.ok sc (fun vs H Q E h => spP_len (Rof.len (n := 3) fun _ => rfl) h) fun cdv A outer s H vs Q E hr h => ⟨t_sums K (clK K), PSs.nox ?_, spP_of (tt := t_sums) (N := ["book", "t", "c"]) (Rof.len (n := 3) fun _ => rfl) (by decide) (fun F hK hc ds d r => wp_sums F ds d r) vs H Q E h⟩⟩
  exact (pss_cons (ps_expr (pe_cF (o_check_column T) (hr.mono (by decide)) (by rfl) (pa_cons (pv 0) (pa_cons (pv 1) (pa_cons (pv 2) pa_nil))))) (pss_cons (ps_if (pt_val (pe_cF (o_is_plain T) (hr.mono (by decide)) (by rfl) (pa_cons (pv 0) pa_nil))) (pss_one (ps_ret (pe_cF (o_sums_by_blocks T) (hr.mono (by decide)) (by rfl) (pa_cons (pv 0) (pa_cons (pv 1) (pa_cons (pv 2) pa_nil)))))) pss_nil) (pss_one (ps_ret (pe_cF (o_sums_through T) (hr.mono (by decide)) (by rfl) (pa_cons (pv 0) (pa_cons (pv 1) (pa_cons (pv 2) pa_nil))))))))
theorem o_is_name (T : Tx P w K mg base) : OkF P w K mg base "is_name" 1 ["thing"] (sp_is_name K (clK K)) := by
  obtain ⟨fd, F⟩ := T.s.def_ 47 (d := d_is_name) rfl
  obtain ⟨t_LETTERS, h_LETTERS⟩ := T.k_LETTERS
  have sc : FnScope ["thing", "sign"] ["thing"] (defScope s_is_name) := ⟨rfl, rfl, rfl, by decide +kernel, rfl, by decide +kernel, by decide +kernel⟩
  refine ⟨_, fd, T.g_is_name, F.kp, F.bindsN (fun _ _ _ _ _ _ us hl => match us, hl with | [_], _ => rfl), F.ok sc (fun vs H Q E h => spP_len (Rof.len (n := 1) fun _ => rfl) h) fun cdv A outer s H vs Q E hr h => ⟨t_is_name K (clK K), PSs.nox ?_, spP_of (tt := t_is_name) (N := ["thing", "sign"]) (Rof.len (n := 1) fun _ => rfl) (by decide) (fun F hK hc ds d r => wp_is_name F ds d r) vs H Q E h⟩⟩
  exact (pss_cons (ps_if (PW.pt (pw_or (pt_not (pt_val (pe_callB call_isi (by rfl) T.f_isinstance bt_isinstance (pa_cons (pv 0) (pa_cons (pe_bltn (v := V.ty "str") (by rfl) T.f_str bt_str rfl) pa_nil))))) (pw_or (pt_cmpR op_lt (pe_callB call_lenZ (by rfl) T.f_len bt_len (pa_cons (pv 0) pa_nil)) pe_int (nomark _)) (pw_or1 (pt_cmpR op_gt (pe_callB call_lenZ (by rfl) T.f_len bt_len (pa_cons (pv 0) pa_nil)) pe_int (nomark _)))))) (pss_one (ps_ret pe_bl)) pss_nil) (pss_one (ps_ret (pe_callB (cr_all rfl) (by rfl) T.f_all bt_all (pa_cons (pe_lc (own := [("sign", 1)]) (g := (gName 1)) (tt := tYes) rfl sc.nd (pi_str (pv 0)) (blkOk_by (own := [("sign", 1)]) (by kernel_rfl)) (fun _ _ _ _ _ => (pg_name (i := 1) sc.nd rfl (by first | exact .inl rfl | exact .inr rfl))) (fun _ _ _ _ _ => pts_nil) (fun _ _ _ _ _ => (pe_cmpR op_inS (pv 1) (pe_glob (by rfl) h_LETTERS ⟨_, rfl⟩) (by with_unfolding_all rfl)))) pa_nil)))))
theorem o_is_value (T : Tx P w K mg base) : OkF P w K mg base "is_value" 2 ["thing"] (sp_is_value K (clK K)) := by
  obtain ⟨fd, F⟩ := T.s.def_ 48 (d := d_is_value) rfl
  obtain ⟨t_BEYOND, h_BEYOND⟩ := T.k_BEYOND
  have sc : FnScope ["thing"] ["thing"] (defScope s_is_value) := ⟨rfl, rfl, rfl, by decide +kernel, rfl, by decide +kernel, by decide +kernel⟩
  refine ⟨_, fd, T.g_is_value, F.kp, F.bindsN (fun _ _ _ _ _ _ us hl => match us, hl with | [_], _ => rfl), F.ok sc (fun vs H Q E h => spP_len (Rof.len (n := 1) fun _ => rfl) h) fun cdv A outer s H vs Q E hr h => ⟨t_is_value K (clK K), PSs.nox ?_, spP_of (tt := t_is_value) (N := ["thing"]) (Rof.len (n := 1) fun _ => rfl) (by decide) (fun F hK hc ds d r => wp_is_value F ds d r) vs H Q E h⟩⟩
  exact (pss_cons (ps_if (PW.pt (pw_and (pt_val (pe_callB call_isi (by rfl) T.f_isinstance bt_isinstance (pa_cons (pv 0) (pa_cons (pe_bltn (v := V.ty "int") (by rfl) T.f_int bt_int rfl) pa_nil)))) (pw_and1 (pt_not (pt_val (pe_callB call_isi (by rfl) T.f_isinstance bt_isinstance (pa_cons (pv 0) (pa_cons (pe_bltn (v := V.ty "bool") (by rfl) T.f_bool bt_bool rfl) pa_nil)))))))) (pss_one (ps_ret (pe_chain op_lt op_lt (pe_op op_sub pe_int (pe_glob (by rfl) h_BEYOND ⟨_, rfl⟩)) (pv 0) (pe_glob (by rfl) h_BEYOND ⟨_, rfl⟩)))) pss_nil) (pss_one (ps_ret (pe_cF (o_is_name T) (hr.mono (by decide)) (by rfl) (pa_cons (pv 0) pa_nil)))))
theorem o_is_whole (T : Tx P w K mg base) : OkF P w K mg base "is_whole" 1 ["thing"] (sp_is_whole K (clK K)) := by
  obtain ⟨fd, F⟩ := T.s.def_ 49 (d := d_is_whole) rfl
  have sc : FnScope ["thing"] ["thing"] (defScope s_is_whole) := ⟨rfl, rfl, rfl, by decide +kernel, rfl, by decide +kernel, by decide +kernel⟩
  refine ⟨_, fd, T.g_is_whole, F.kp, F.bindsN (fun _ _ _ _ _ _ us hl => match us, hl with | [_], _ => rfl), F.ok sc (fun vs H Q E h => spP_len (Rof.len (n := 1) fun _ => rfl) h) fun cdv A outer s H vs Q E hr h => ⟨t_is_whole K (clK K), PSs.nox ?_, spP_of (tt := t_is_whole) (N := ["thing"]) (Rof.len (n := 1) fun _ => rfl) (by decide) (fun F hK hc ds d r => wp_is_whole F ds d r) vs H Q E h⟩⟩
  exact (pss_one (ps_ret (pe_and (pe_callB call_isi (by rfl) T.f_isinstance bt_isinstance (pa_cons (pv 0) (pa_cons (pe_bltn (v := V.ty "int") (by rfl) T.f_int bt_int rfl) pa_nil))) (pe_one (pe_not (pe_callB call_isi (by rfl) T.f_isinstance bt_isinstance (pa_cons (pv 0) (pa_cons (pe_bltn (v := V.ty "bool") (by rfl) T.f_bool bt_bool rfl) pa_nil))))))))
theorem o_is_table (T : Tx P w K mg base) : OkF P w K mg base "is_table" 2 ["thing"] (sp_is_table K (clK K)) := by
  obtain ⟨fd, F⟩ := T.s.def_ 50 (d := d_is_table) rfl
  have sc : FnScope ["thing"] ["thing"] (defScope s_is_table) := ⟨rfl, rfl, rfl, by decide +kernel, rfl, by decide +kernel, by decide +kernel⟩
  refine ⟨_, fd, T.g_is_table, F.kp, F.bindsN (fun _ _ _ _ _ _ us hl => match us, hl with | [_], _ => rfl), F.ok sc (fun vs H Q E h => spP_len (Rof.len (n := 1) fun _ => rfl) h) fun cdv A outer s H vs Q E hr h => ⟨t_is_table K (clK K), PSs.nox ?_, spP_of (tt := t_is_table) (N := ["thing"]) (Rof.len (n := 1) fun _ => rfl) (by decide) (fun F hK hc ds d r => wp_is_table F ds d r) vs H Q E h⟩⟩
  exact (pss_cons (ps_if (PW.pt (pw_or (pt_not (pt_val (pe_callB call_isi (by rfl) T.f_isinstance bt_isinstance (pa_cons (pv 0) (pa_cons (pe_bltn (v := V.ty "tuple") (by rfl) T.f_tuple bt_tuple rfl) pa_nil))))) (pw_or1 (pt_cmpR op_ne (pe_callB call_lenQ (by rfl) T.f_len bt_len (pa_cons (pv 0) pa_nil)) pe_int (nomark _))))) (pss_one (ps_ret pe_bl)) pss_nil) (pss_cons (ps_if (PW.pt (pw_or (pt_not (pt_val (pe_cF (o_is_whole T) (hr.mono (by decide)) (by rfl) (pa_cons (pe_ix ix_tup (pv 0) pe_int (fun _ _ => rfl)) pa_nil)))) (pw_or1 (pt_not (pt_val (pe_cF (o_is_whole T) (hr.mono (by decide)) (by rfl) (pa_cons (pe_ix ix_tup (pv 0) pe_int (fun _ _ => rfl)) pa_nil))))))) (pss_one (ps_ret pe_bl)) pss_nil) (pss_one (ps_ret (pe_and (pe_chain op_le op_le pe_int (pe_ix ix_tup (pv 0) pe_int (fun _ _ => rfl)) pe_int) (pe_one (pe_chain op_le op_le pe_int (pe_ix ix_tup (pv 0) pe_int (fun _ _ => rfl)) (pe_ix ix_tup (pv 0) pe_int (fun _ _ => rfl)))))))))
theorem o_is_in (T : Tx P w K mg base) : OkF P w K mg base "is_in" 2 ["tables", "t"] (sp_is_in K (clK K)) := by
  obtain ⟨fd, F⟩ := T.s.def_ 51 (d := d_is_in) rfl
  have sc : FnScope ["tables", "t"] ["tables", "t"] (defScope s_is_in) := ⟨rfl, rfl, rfl, by decide +kernel, rfl, by decide +kernel, by decide +kernel⟩
  refine ⟨_, fd, T.g_is_in, F.kp, F.bindsN (fun _ _ _ _ _ _ us hl => match us, hl with | [_, _], _ => rfl), F.ok sc (fun vs H Q E h => spP_len (Rof.len (n := 2) fun _ => rfl) h) fun cdv A outer s H vs Q E hr h => ⟨t_is_in K (clK K), PSs.nox ?_, spP_of (tt := t_is_in) (N := ["tables", "t"]) (Rof.len (n := 2) fun _ => rfl) (by decide) (fun F hK hc ds d r => wp_is_in F ds d r) vs H Q E h⟩⟩
  exact (pss_one (ps_ret (pe_and (pe_cF (o_is_whole T) (hr.mono (by decide)) (by rfl) (pa_cons (pv 1) pa_nil)) (pe_one (pe_chain op_le op_lt pe_int (pv 1) (pe_callB call_lenQ (by rfl) T.f_len bt_len (pa_cons (pv 0) pa_nil)))))))
theorem o_is_column (T : Tx P w K mg base) : OkF P w K mg base "is_column" 2 ["tables", "t", "c"] (sp_is_column K (clK K)) := by
  obtain ⟨fd, F⟩ := T.s.def_ 52 (d := d_is_column) rfl
  have sc : FnScope ["tables", "t", "c"] ["tables", "t", "c"] (defScope s_is_column) := ⟨rfl, rfl, rfl, by decide +kernel, rfl, by decide +kernel, by decide +kernel⟩
  refine ⟨_, fd, T.g_is_column, F.kp, F.bindsN (fun _ _ _ _ _ _ us hl => match us, hl with | [_, _, _], _ => rfl), F.ok sc (fun vs H Q E h => spP_len (Rof.len (n := 3) fun _ => rfl) h) fun cdv A outer s H vs Q E hr h => ⟨t_is_column K (clK K), PSs.nox ?_, spP_of (tt := t_is_column) (N := ["tables", "t", "c"]) (Rof.len (n := 3) fun _ => rfl) (by decide) (fun F hK hc ds d r => wp_is_column F ds d r) vs H Q E h⟩⟩
  exact (pss_one (ps_ret (pe_and (pe_cF (o_is_whole T) (hr.mono (by decide)) (by rfl) (pa_cons (pv 2) pa_nil)) (pe_one (pe_chain op_le op_lt pe_int (pv 2) (pe_ix ix_tup (pe_ix ix_tup (pv 0) (pv 1) (fun _ _ => rfl)) pe_int (fun _ _ => rfl)))))))
theorem o_is_side (T : Tx P w K mg base) : OkF P w K mg base "is_side" 3 ["tables", "there", "side"] (sp_is_side K (clK K)) := by
  obtain ⟨fd, F⟩ := T.s.def_ 53 (d := d_is_side) rfl
  have sc : FnScope ["tables", "there", "side"] ["tables", "there", "side"] (defScope s_is_side) := ⟨rfl, rfl, rfl, by decide +kernel, rfl, by decide +kernel, by decide +kernel⟩
  refine ⟨_, fd, T.g_is_side, F.kp, F.bindsN (fun _ _ _ _ _ _ us hl => match us, hl with | [_, _, _], _ => rfl), F.ok sc (fun vs H Q E h => spP_len (Rof.len (n := 3) fun _ => rfl) h) fun cdv A outer s H vs Q E hr h => ⟨t_is_side K (clK K), PSs.nox ?_, spP_of (tt := t_is_side) (N := ["tables", "there", "side"]) (Rof.len (n := 3) fun _ => rfl) (by decide) (fun F hK hc ds d r => wp_is_side F ds d r) vs H Q E h⟩⟩
  exact (pss_cons (ps_if (PW.pt (pw_or (pt_not (pt_val (pe_callB call_isi (by rfl) T.f_isinstance bt_isinstance (pa_cons (pv 2) (pa_cons (pe_bltn (v := V.ty "tuple") (by rfl) T.f_tuple bt_tuple rfl) pa_nil))))) (pw_or1 (pt_cmpR op_lt (pe_callB call_lenQ (by rfl) T.f_len bt_len (pa_cons (pv 2) pa_nil)) pe_int (nomark _))))) (pss_one (ps_ret pe_bl)) pss_nil) (pss_cons (ps_if (pt_cmpR op_eq (pe_callB call_lenQ (by rfl) T.f_len bt_len (pa_cons (pv 2) pa_nil)) pe_int (nomark _)) (pss_one (ps_ret (pe_and (pe_cmpR op_eq (pe_ix ix_tup (pv 2) pe_int (fun _ _ => rfl)) pe_str (nomark _)) (pe_one (pe_cF (o_is_value T) (hr.mono (by decide)) (by rfl) (pa_cons (pe_ix ix_tup (pv 2) pe_int (fun _ _ => rfl)) pa_nil)))))) pss_nil) (pss_cons (ps_if (PW.pt (pw_or (pt_cmpR op_ne (pe_callB call_lenQ (by rfl) T.f_len bt_len (pa_cons (pv 2) pa_nil)) pe_int (nomark _)) (pw_or (pt_cmpR op_ne (pe_ix ix_tup (pv 2) pe_int (fun _ _ => rfl)) pe_str (nomark _)) (pw_or (pt_not (pt_val (pe_cF (o_is_whole T) (hr.mono (by decide)) (by rfl) (pa_cons (pe_ix ix_tup (pv 2) pe_int (fun _ _ => rfl)) pa_nil)))) (pw_or1 (pt_not (pt_chain op_le op_lt pe_int (pe_ix ix_tup (pv 2) pe_int (fun _ _ => rfl)) (pe_callB call_lenQ (by rfl) T.f_len bt_len (pa_cons (pv 1) pa_nil))))))))) (pss_one (ps_ret pe_bl)) pss_nil) (pss_one (ps_ret (pe_cF (o_is_column T) (hr.mono (by decide)) (by rfl) (pa_cons (pv 0) (pa_cons (pe_ix ix_tup (pv 1) (pe_ix ix_tup (pv 2) pe_int (fun _ _ => rfl)) (fun _ _ => rfl)) (pa_cons (pe_ix ix_tup (pv 2) pe_int (fun _ _ => rfl)) pa_nil)))))))))
theorem o_are_tests (T : Tx P w K mg base) : OkF P w K mg base "are_tests" 4 ["tables", "there", "tests"] (sp_are_tests K (clK K)) := by
  obtain ⟨fd, F⟩ := T.s.def_ 54 (d := d_are_tests) rfl
  have sc : FnScope ["tables", "there", "tests", "test"] ["tables", "there", "tests"] (defScope s_are_tests) := ⟨rfl, rfl, rfl, by decide +kernel, rfl, by decide +kernel, by decide +kernel⟩
  refine ⟨_, fd, T.g_are_tests, F.kp, F.bindsN (fun _ _ _ _ _ _ us hl => match us, hl with | [_, _, _], _ => rfl), F.ok sc (fun vs H Q E h => spP_len (Rof.len (n := 3) fun _ => rfl) h) fun cdv A outer s H vs Q E hr h => ⟨t_are_tests K (clK K), PSs.nox ?_, spP_of (tt := t_are_tests) (N := ["tables", "there", "tests", "test"]) (Rof.len (n := 3) fun _ => rfl) (by decide) (fun F hK hc ds d r => wp_are_tests F (by rw [hK]; exact T.words) ds d r) vs H Q E h⟩⟩
  exact (pss_cons (ps_if (PW.pt (pw_or (pt_not (pt_val (pe_callB call_isi (by rfl) T.f_isinstance bt_isinstance (pa_cons (pv 2) (pa_cons (pe_bltn (v := V.ty "tuple") (by rfl) T.f_tuple bt_tuple rfl) pa_nil))))) (pw_or1 (pt_not (pt_chain op_le op_le pe_int (pe_callB call_lenQ (by rfl) T.f_len bt_len (pa_cons (pv 2) pa_nil)) pe_int))))) (pss_one (ps_ret pe_bl)) pss_nil) (pss_cons (ps_for PassesOwn.never rfl (pi_tup (pv 2)) (pg_name (i := 3) sc.nd rfl (by first | exact .inl rfl | exact .inr rfl)) (pss_cons (ps_if (PW.pt (pw_or (pt_not (pt_val (pe_callB call_isi (by rfl) T.f_isinstance bt_isinstance (pa_cons (pv 3) (pa_cons (pe_bltn (v := V.ty "tuple") (by rfl) T.f_tuple bt_tuple rfl) pa_nil))))) (pw_or (pt_cmpR op_ne (pe_callB call_lenQ (by rfl) T.f_len bt_len (pa_cons (pv 3) pa_nil)) pe_int (nomark _)) (pw_or1 (pt_cmpR op_notIn_seq (pe_ix ix_tup (pv 3) pe_int (fun _ _ => rfl)) (pe_glob (v := V.ref (He.ga K "WORDS")) (by rfl) T.g_WORDS rfl) (by with_unfolding_all rfl)))))) (pss_one (ps_ret pe_bl)) pss_nil) (pss_one (ps_if (PW.pt (pw_or (pt_not (pt_val (pe_cF (o_is_side T) (hr.mono (by decide)) (by rfl) (pa_cons (pv 0) (pa_cons (pv 1) (pa_cons (pe_ix ix_tup (pv 3) pe_int (fun _ _ => rfl)) pa_nil)))))) (pw_or1 (pt_not (pt_val (pe_cF (o_is_side T) (hr.mono (by decide)) (by rfl) (pa_cons (pv 0) (pa_cons (pv 1) (pa_cons (pe_ix ix_tup (pv 3) pe_int (fun _ _ => rfl)) pa_nil))))))))) (pss_one (ps_ret pe_bl)) pss_nil)))) (pss_one (ps_ret pe_bl))))
theorem o_are_columns (T : Tx P w K mg base) : OkF P w K mg base "are_columns" 3 ["tables", "t", "columns", "many"] (sp_are_columns K (clK K)) := by
  obtain ⟨fd, F⟩ := T.s.def_ 55 (d := d_are_columns) rfl
  have sc : FnScope ["tables", "t", "columns", "many", "c"] ["tables", "t", "columns", "many"] (defScope s_are_columns) := ⟨rfl, rfl, rfl, by decide +kernel, rfl, by decide +kernel, by decide +kernel⟩
  refine ⟨_, fd, T.g_are_columns, F.kp, F.bindsN (fun _ _ _ _ _ _ us hl => match us, hl with | [_, _, _, _], _ => rfl), F.ok sc (fun vs H Q E h => spP_len (Rof.len (n := 4) fun _ => rfl) h) fun cdv A outer s H vs Q E hr h => ⟨t_are_columns K (clK K), PSs.nox ?_, spP_of (tt := t_are_columns) (N := ["tables", "t", "columns", "many", "c"]) (Rof.len (n := 4) fun _ => rfl) (by decide) (fun F hK hc ds d r => wp_are_columns F ds d r) vs H Q E h⟩⟩
  exact (pss_cons (ps_if (PW.pt (pw_or (pt_not (pt_val (pe_callB call_isi (by rfl) T.f_isinstance bt_isinstance (pa_cons (pv 2) (pa_cons (pe_bltn (v := V.ty "tuple") (by rfl) T.f_tuple bt_tuple rfl) pa_nil))))) (pw_or1 (pt_cmpR op_ne (pe_callB call_lenQ (by rfl) T.f_len bt_len (pa_cons (pv 2) pa_nil)) (pv 3) (nomark _))))) (pss_one (ps_ret pe_bl)) pss_nil) (pss_one (ps_ret (pe_callB (cr_all rfl) (by rfl) T.f_all bt_all (pa_cons (pe_lc (own := [("c", 4)]) (g := (gName 4)) (tt := tYes) rfl sc.nd (pi_tup (pv 2)) (blkOk_by (own := [("c", 4)]) (by kernel_rfl)) (fun _ _ _ _ _ => (pg_name (i := 4) sc.nd rfl (by first | exact .inl rfl | exact .inr rfl))) (fun _ _ _ _ _ => pts_nil) (fun _ _ _ _ _ => (pe_cF (o_is_column T) (hr.mono (by decide)) (by rfl) (pa_cons (pv 0) (pa_cons (pv 1) (pa_cons (pv 4) pa_nil)))))) pa_nil)))))
theorem o_is_tie (T : Tx P w K mg base) : OkF P w K mg base "is_tie" 4 ["tables", "rule"] (sp_is_tie K (clK K)) := by
  obtain ⟨fd, F⟩ := T.s.def_ 56 (d := d_is_tie) rfl
  have sc : FnScope ["tables", "rule", "columns"] ["tables", "rule"] (defScope s_is_tie) := ⟨rfl, rfl, rfl, by decide +kernel, rfl, by decide +kernel, by decide +kernel⟩
  refine ⟨_, fd, T.g_is_tie, F.kp, F.bindsN (fun _ _ _ _ _ _ us hl => match us, hl with | [_, _], _ => rfl), F.ok sc (fun vs H Q E h => spP_len (Rof.len (n := 2) fun _ => rfl) h) fun cdv A outer s H vs Q E hr h => ⟨t_is_tie K (clK K), PSs.nox ?_, spP_of (tt := t_is_tie) (N := ["tables", "rule", "columns"]) (Rof.len (n := 2) fun _ => rfl) (by decide) (fun F hK hc ds d r => wp_is_tie F ds d r) vs H Q E h⟩⟩
  exact (pss_cons (ps_if (PW.pt (pw_or (pt_cmpR op_ne (pe_callB call_lenQ (by rfl) T.f_len bt_len (pa_cons (pv 1) pa_nil)) pe_int (nomark _)) (pw_or (pt_not (pt_val (pe_cF (o_is_in T) (hr.mono (by decide)) (by rfl) (pa_cons (pv 0) (pa_cons (pe_ix ix_tup (pv 1) pe_int (fun _ _ => rfl)) pa_nil))))) (pw_or1 (pt_not (pt_val (pe_cF (o_is_in T) (hr.mono (by decide)) (by rfl) (pa_cons (pv 0) (pa_cons (pe_ix ix_tup (pv 1) pe_int (fun _ _ => rfl)) pa_nil))))))))) (pss_one (ps_ret pe_bl)) pss_nil) (pss_cons (ps_set (i := 2) sc.nd rfl (by first | exact .inl rfl | exact .inr rfl) (pe_ix ix_tup (pv 1) pe_int (fun _ _ => rfl))) (pss_cons (ps_if (PW.pt (pw_or (pt_not (pt_val (pe_callB call_isi (by rfl) T.f_isinstance bt_isinstance (pa_cons (pv 2) (pa_cons (pe_bltn (v := V.ty "tuple") (by rfl) T.f_tuple bt_tuple rfl) pa_nil))))) (pw_or1 (pt_not (pt_chain op_le op_le pe_int (pe_callB call_lenQ (by rfl) T.f_len bt_len (pa_cons (pv 2) pa_nil)) pe_int))))) (pss_one (ps_ret pe_bl)) pss_nil) (pss_one (ps_ret (pe_and (pe_cF (o_are_columns T) (hr.mono (by decide)) (by rfl) (pa_cons (pv 0) (pa_cons (pe_ix ix_tup (pv 1) pe_int (fun _ _ => rfl)) (pa_cons (pv 2) (pa_cons (pe_callB call_lenQ (by rfl) T.f_len bt_len (pa_cons (pv 2) pa_nil)) pa_nil))))) (pe_one (pe_cF (o_are_columns T) (hr.mono (by decide)) (by rfl) (pa_cons (pv 0) (pa_cons (pe_ix ix_tup (pv 1) pe_int (fun _ _ => rfl)) (pa_cons (pe_ix ix_tup (pv 1) pe_int (fun _ _ => rfl)) (pa_cons (pe_callB call_lenQ (by rfl) T.f_len bt_len (pa_cons (pv 2) pa_nil)) pa_nil))))))))))))
theorem o_is_rule (T : Tx P w K mg base) : OkF P w K mg base "is_rule" 5 ["tables", "rule"] (sp_is_rule K (clK K)) := by
  obtain ⟨fd, F⟩ := T.s.def_ 57 (d := d_is_rule) rfl
  have sc : FnScope ["tables", "rule"] ["tables", "rule"] (defScope s_is_rule) := ⟨rfl, rfl, rfl, by decide +kernel, rfl, by decide +kernel, by decide +kernel⟩
  refine ⟨_, fd, T.g_is_rule, F.kp, F.bindsN (fun _ _ _ _ _ _ us hl => match us, hl with | [_, _], _ => rfl), F.ok sc (fun vs H Q E h => spP_len (Rof.len (n := 2) fun _ => rfl) h) fun cdv A outer s H vs Q E hr h => ⟨t_is_rule K (clK K), PSs.nox ?_, spP_of (tt := t_is_rule) (N := ["tables", "rule"]) (Rof.len (n := 2) fun _ => rfl) (by decide) (fun F hK hc ds d r => wp_is_rule F ds d r) vs H Q E h⟩⟩
  exact (pss_cons (ps_if (pt_cmpR op_eq (pe_ix ix_tup (pv 1) pe_int (fun _ _ => rfl)) pe_str (nomark _)) (pss_one (ps_ret (pe_and (pe_cmpR op_eq (pe_callB call_lenQ (by rfl) T.f_len bt_len (pa_cons (pv 1) pa_nil)) pe_int (nomark _)) (pe_and (pe_cF (o_is_in T) (hr.mono (by decide)) (by rfl) (pa_cons (pv 0) (pa_cons (pe_ix ix_tup (pv 1) pe_int (fun _ _ => rfl)) pa_nil))) (pe_one (pe_cF (o_are_tests T) (hr.mono (by decide)) (by rfl) (pa_cons (pv 0) (pa_cons (pe_tup (pa_cons (pe_ix ix_tup (pv 1) pe_int (fun _ _ => rfl)) pa_nil)) (pa_cons (pe_ix ix_tup (pv 1) pe_int (fun _ _ => rfl)) pa_nil))))))))) pss_nil) (pss_cons (ps_if (pt_cmpR op_eq (pe_ix ix_tup (pv 1) pe_int (fun _ _ => rfl)) pe_str (nomark _)) (pss_cons (ps_if (PW.pt (pw_or (pt_cmpR op_ne (pe_callB call_lenQ (by rfl) T.f_len bt_len (pa_cons (pv 1) pa_nil)) pe_int (nomark _)) (pw_or (pt_not (pt_val (pe_cF (o_is_in T) (hr.mono (by decide)) (by rfl) (pa_cons (pv 0) (pa_cons (pe_ix ix_tup (pv 1) pe_int (fun _ _ => rfl)) pa_nil))))) (pw_or1 (pt_not (pt_val (pe_cF (o_is_in T) (hr.mono (by decide)) (by rfl) (pa_cons (pv 0) (pa_cons (pe_ix ix_tup (pv 1) pe_int (fun _ _ => rfl)) pa_nil))))))))) (pss_one (ps_ret pe_bl)) pss_nil) (pss_one (ps_ret (pe_cF (o_are_tests T) (hr.mono (by decide)) (by rfl) (pa_cons (pv 0) (pa_cons (pe_tup (pa_cons (pe_ix ix_tup (pv 1) pe_int (fun _ _ => rfl)) (pa_cons (pe_ix ix_tup (pv 1) pe_int (fun _ _ => rfl)) pa_nil))) (pa_cons (pe_ix ix_tup (pv 1) pe_int (fun _ _ => rfl)) pa_nil))))))) pss_nil) (pss_one (ps_ret (pe_and (pe_cmpR op_eq (pe_ix ix_tup (pv 1) pe_int (fun _ _ => rfl)) pe_str (nomark _)) (pe_one (pe_cF (o_is_tie T) (hr.mono (by decide)) (by rfl) (pa_cons (pv 0) (pa_cons (pv 1) pa_nil)))))))))
theorem o_is_row (T : Tx P w K mg base) : OkF P w K mg base "is_row" 3 ["tables", "row"] (sp_is_row K (clK K)) := by
  obtain ⟨fd, F⟩ := T.s.def_ 58 (d := d_is_row) rfl
  have sc : FnScope ["tables", "row", "value"] ["tables", "row"] (defScope s_is_row) := ⟨rfl, rfl, rfl, by decide +kernel, rfl, by decide +kernel, by decide +kernel⟩
  refine ⟨_, fd, T.g_is_row, F.kp, F.bindsN (fun _ _ _ _ _ _ us hl => match us, hl with | [_, _], _ => rfl), F.ok sc (fun vs H Q E h => spP_len (Rof.len (n := 2) fun _ => rfl) h) fun cdv A outer s H vs Q E hr h => ⟨t_is_row K (clK K), PSs.nox ?_, spP_of (tt := t_is_row) (N := ["tables", "row", "value"]) (Rof.len (n := 2) fun _ => rfl) (by decide) (fun F hK hc ds d r => wp_is_row F ds d r) vs H Q E h⟩⟩
  exact (pss_cons (ps_if (PW.pt (pw_or (pt_not (pt_val (pe_callB call_isi (by rfl) T.f_isinstance bt_isinstance (pa_cons (pv 1) (pa_cons (pe_bltn (v := V.ty "tuple") (by rfl) T.f_tuple bt_tuple rfl) pa_nil))))) (pw_or (pt_cmpR op_ne (pe_callB call_lenQ (by rfl) T.f_len bt_len (pa_cons (pv 1) pa_nil)) pe_int (nomark _)) (pw_or1 (pt_not (pt_val (pe_cF (o_is_in T) (hr.mono (by decide)) (by rfl) (pa_cons (pv 0) (pa_cons (pe_ix ix_tup (pv 1) pe_int (fun _ _ => rfl)) pa_nil))))))))) (pss_one (ps_ret pe_bl)) pss_nil) (pss_cons (ps_if (PW.pt (pw_or (pt_not (pt_val (pe_callB call_isi (by rfl) T.f_isinstance bt_isinstance (pa_cons (pe_ix ix_tup (pv 1) pe_int (fun _ _ => rfl)) (pa_cons (pe_bltn (v := V.ty "tuple") (by rfl) T.f_tuple bt_tuple rfl) pa_nil))))) (pw_or1 (pt_cmpR op_ne (pe_callB call_lenQ (by rfl) T.f_len bt_len (pa_cons (pe_ix ix_tup (pv 1) pe_int (fun _ _ => rfl)) pa_nil)) (pe_ix ix_tup (pe_ix ix_tup (pv 0) (pe_ix ix_tup (pv 1) pe_int (fun _ _ => rfl)) (fun _ _ => rfl)) pe_int (fun _ _ => rfl)) (nomark _))))) (pss_one (ps_ret pe_bl)) pss_nil) (pss_one (ps_ret (pe_callB (cr_all rfl) (by rfl) T.f_all bt_all (pa_cons (pe_lc (own := [("value", 2)]) (g := (gName 2)) (tt := tYes) rfl sc.nd (pi_tup (pe_ix ix_tup (pv 1) pe_int (fun _ _ => rfl))) (blkOk_by (own := [("value", 2)]) (by kernel_rfl)) (fun _ _ _ _ _ => (pg_name (i := 2) sc.nd rfl (by first | exact .inl rfl | exact .inr rfl))) (fun _ _ _ _ _ => pts_nil) (fun _ _ _ _ _ => (pe_cF (o_is_value T) (hr.mono (by decide)) (by rfl) (pa_cons (pv 2) pa_nil)))) pa_nil))))))
theorem o_check_rows (T : Tx P w K mg base) : OkF P w K mg base "check_rows" 4 ["tables", "rows"] (sp_check_rows K (clK K)) := by
  obtain ⟨fd, F⟩ := T.s.def_ 59 (d := d_check_rows) rfl
  have sc : FnScope ["tables", "rows", "place", "row"] ["tables", "rows"] (defScope s_check_rows) := ⟨rfl, rfl, rfl, by decide +kernel, rfl, by decide +kernel, by decide +kernel⟩
  refine ⟨_, fd, T.g_check_rows, F.kp, F.bindsN (fun _ _ _ _ _ _ us hl => match us, hl with | [_, _], _ => rfl), F.ok sc (fun vs H Q E h => spP_len (Rof.len (n := 2) fun _ => rfl) h) fun cdv A outer s H vs Q E hr h => ⟨t_check_rows K (clK K), PSs.nox ?_, spP_of (tt := t_check_rows) (N := ["tables", "rows", "place", "row"]) (Rof.len (n := 2) fun _ => rfl) (by decide) (fun F hK hc ds d r => wp_check_rows F ds d r) vs H Q E h⟩⟩
  exact (pss_cons (ps_for PassesOwn.never rfl (pi_enumT (by rfl) T.f_enumerate (pa_cons (pv 1) pa_nil)) (pg_tup rfl (pgs_cons (pg_name (i := 2) sc.nd rfl (by first | exact .inl rfl | exact .inr rfl)) (pgs_cons (pg_name (i := 3) sc.nd rfl (by first | exact .inl rfl | exact .inr rfl)) pgs_nil))) (pss_one (ps_if (pt_not (pt_val (pe_cF (o_is_row T) (hr.mono (by decide)) (by rfl) (pa_cons (pv 0) (pa_cons (pv 3) pa_nil))))) (pss_one ps_never) pss_nil))) (pss_one (ps_for PassesOwn.never rfl (pi_enumT (by rfl) T.f_enumerate (pa_cons (pv 1) pa_nil)) (pg_tup rfl (pgs_cons (pg_name (i := 2) sc.nd rfl (by first | exact .inl rfl | exact .inr rfl)) (pgs_cons (pg_name (i := 3) sc.nd rfl (by first | exact .inl rfl | exact .inr rfl)) pgs_nil))) (pss_one (ps_if (pt_cmpR (op_inDT (hu65 hr)) (pv 3) (pe_slice sl_tupA (pv 1) po_none (po_some (pv 2))) (by with_unfolding_all rfl)) (pss_one ps_never) pss_nil)))))
theorem o_book_of (T : Tx P w K mg base) : OkF P w K mg base "book_of" 6 ["tables", "rules", "rows"] (sp_book_of K (clK K)) := by
  obtain ⟨fd, F⟩ := T.s.def_ 60 (d := d_book_of) rfl
  obtain ⟨t_MOST_ROWS, h_MOST_ROWS⟩ := T.k_MOST_ROWS
  obtain ⟨t_MOST_RULES, h_MOST_RULES⟩ := T.k_MOST_RULES
  obtain ⟨t_MOST_TABLES, h_MOST_TABLES⟩ := T.k_MOST_TABLES
  have sc : FnScope ["tables", "rules", "rows", "place", "table", "rule"] ["tables", "rules", "rows"] (defScope s_book_of) := ⟨rfl, rfl, rfl, by decide +kernel, rfl, by decide +kernel, by decide +kernel⟩
  refine ⟨_, fd, T.g_book_of, F.kp, F.bindsN (fun _ _ _ _ _ _ us hl => match us, hl with | [_, _, _], _ => rfl), F.ok sc (fun vs H Q E h => spP_len (Rof.len (n := 3) fun _ => rfl) h) fun cdv A outer s H vs Q E hr h => ⟨t_book_of K (clK K), PSs.nox ?_, spP_of (tt := t_book_of) (N := ["tables", "rules", "rows", "place", "table", "rule"]) (Rof.len (n := 3) fun _ => rfl) (by decide) (fun F hK hc ds d r => wp_book_of F ds d r) vs H Q E h⟩⟩
  exact (pss_cons (ps_if (PW.pt (pw_or (pt_cmpR op_gt (pe_callB call_lenQ (by rfl) T.f_len bt_len (pa_cons (pv 0) pa_nil)) (pe_glob (by rfl) h_MOST_TABLES ⟨_, rfl⟩) (nomark _)) (pw_or (pt_cmpR op_gt (pe_callB call_lenQ (by rfl) T.f_len bt_len (pa_cons (pv 1) pa_nil)) (pe_glob (by rfl) h_MOST_RULES ⟨_, rfl⟩) (nomark _)) (pw_or1 (pt_cmpR op_gt (pe_callB call_lenQ (by rfl) T.f_len bt_len (pa_cons (pv 2) pa_nil)) (pe_glob (by rfl) h_MOST_ROWS ⟨_, rfl⟩) (nomark _)))))) (pss_one ps_never) pss_nil) (pss_cons (ps_for PassesOwn.never rfl (pi_enumT (by rfl) T.f_enumerate (pa_cons (pv 0) pa_nil)) (pg_tup rfl (pgs_cons (pg_name (i := 3) sc.nd rfl (by first | exact .inl rfl | exact .inr rfl)) (pgs_cons (pg_name (i := 4) sc.nd rfl (by first | exact .inl rfl | exact .inr rfl)) pgs_nil))) (pss_one (ps_if (pt_not (pt_val (pe_cF (o_is_table T) (hr.mono (by decide)) (by rfl) (pa_cons (pv 4) pa_nil)))) (pss_one ps_never) pss_nil))) (pss_cons (ps_if (pt_cmpR op_eq (pe_callB call_lenQ (by rfl) T.f_len bt_len (pa_cons (pv 0) pa_nil)) pe_int (nomark _)) (pss_one ps_never) pss_nil) (pss_cons (ps_for PassesOwn.never rfl (pi_enumT (by rfl) T.f_enumerate (pa_cons (pv 1) pa_nil)) (pg_tup rfl (pgs_cons (pg_name (i := 3) sc.nd rfl (by first | exact .inl rfl | exact .inr rfl)) (pgs_cons (pg_name (i := 5) sc.nd rfl (by first | exact .inl rfl | exact .inr rfl)) pgs_nil))) (pss_one (ps_if (pt_not (pt_val (pe_cF (o_is_rule T) (hr.mono (by decide)) (by rfl) (pa_cons (pv 0) (pa_cons (pv 5) pa_nil))))) (pss_one ps_never) pss_nil))) (pss_cons (ps_expr (pe_cF (o_check_rows T) (hr.mono (by decide)) (by rfl) (pa_cons (pv 0) (pa_cons (pv 2) pa_nil)))) (pss_one (ps_ret (pe_tup (pa_cons (pe_callTy call_tupleQ (by rfl) T.f_tuple bt_tuple (pa_cons (pv 0) pa_nil)) (pa_cons (pe_callTy call_tupleQ (by rfl) T.f_tuple bt_tuple (pa_cons (pv 1) pa_nil)) (pa_cons (pe_callTy call_tupleQ (by rfl) T.f_tuple bt_tuple (pa_cons (pv 2) pa_nil)) pa_nil)))))))))))
theorem o_law_cell_at (T : Tx P w K mg base) : OkF P w K mg base "_law_cell_at" 1 ["_law_script", "_law_k"] (sp_law_cell_at K (clK K)) := by
  obtain ⟨fd, F⟩ := T.s.def_ 61 (d := d_law_cell_at) rfl
  have sc : FnScope ["_law_script", "_law_k"] ["_law_script", "_law_k"] (defScope s_law_cell_at) := ⟨rfl, rfl, rfl, by decide +kernel, rfl, by decide +kernel, by decide +kernel⟩
  refine ⟨_, fd, T.g_law_cell_at, F.kp, F.bindsN (fun _ _ _ _ _ _ us hl => match us, hl with | [_, _], _ => rfl), F.ok sc (fun vs H Q E h => spP_len (Rof.len (n := 2) fun _ => rfl) h) fun cdv A outer s H vs Q E hr h => ⟨t_law_cell_at K (clK K), PSs.nox ?_, spP_of (tt := t_law_cell_at) (N := ["_law_script", "_law_k"]) (Rof.len (n := 2) fun _ => rfl) (by decide) (fun F hK hc ds d r => wp_law_cell_at F ds d r) vs H Q E h⟩⟩
  exact (pss_cons (ps_if (pt_cmpR op_lt (pv 1) (pe_callB call_lenQ (by rfl) T.f_len bt_len (pa_cons (pv 0) pa_nil)) (nomark _)) (pss_one (ps_ret (pe_ix ix_list (pv 0) (pv 1) (fun _ _ => rfl)))) pss_nil) (pss_one (ps_ret pe_int)))
theorem o_law_mix (T : Tx P w K mg base) : OkF P w K mg base "_law_mix" 1 ["_law_cell", "_law_prime"] (sp_law_mix K (clK K)) := by
  obtain ⟨fd, F⟩ := T.s.def_ 62 (d := d_law_mix) rfl
  have sc : FnScope ["_law_cell", "_law_prime", "_law_number"] ["_law_cell", "_law_prime"] (defScope s_law_mix) := ⟨rfl, rfl, rfl, by decide +kernel, rfl, by decide +kernel, by decide +kernel⟩
  refine ⟨_, fd, T.g_law_mix, F.kp, F.bindsN (fun _ _ _ _ _ _ us hl => match us, hl with | [_, _], _ => rfl), F.ok sc (fun vs H Q E h => spP_len (Rof.len (n := 2) fun _ => rfl) h) fun cdv A outer s H vs Q E hr h => ⟨t_law_mix K (clK K), PSs.nox ?_, spP_of (tt := t_law_mix) (N := ["_law_cell", "_law_prime", "_law_number"]) (Rof.len (n := 2) fun _ => rfl) (by decide) (fun F hK hc ds d r => wp_law_mix F ds d r) vs H Q E h⟩⟩
  exact (pss_cons (ps_if (pt_cmpR op_eq (pe_op op_mod (pv 0) pe_int) pe_int (nomark _)) (pss_one (ps_ret (pe_op op_mod (pe_op op_fdivW (pv 0) pe_int) (pe_op op_powW (pe_op op_powW pe_int pe_int) pe_int)))) pss_nil) (pss_cons (ps_set (i := 2) sc.nd rfl (by first | exact .inl rfl | exact .inr rfl) (pe_op op_mod (pe_op op_mulW (pe_op op_add (pe_op op_mod (pv 0) pe_int) pe_int) pe_int) (pv 1))) (pss_one (ps_ret (pe_op op_add (pe_op op_mulW (pe_op op_mod (pe_op op_mulW (pv 2) (pv 2)) pe_int) pe_int) (pv 2))))))
theorem o_law_name (T : Tx P w K mg base) : OkF P w K mg base "_law_name" 1 ["_law_cell"] (sp_law_name K (clK K)) := by
  obtain ⟨fd, F⟩ := T.s.def_ 63 (d := d_law_name) rfl
  have sc : FnScope ["_law_cell", "_law_letters", "_law_number", "_law_name_here", "_law_k"] ["_law_cell"] (defScope s_law_name) := ⟨rfl, rfl, rfl, by decide +kernel, rfl, by decide +kernel, by decide +kernel⟩
  refine ⟨_, fd, T.g_law_name, F.kp, F.bindsN (fun _ _ _ _ _ _ us hl => match us, hl with | [_], _ => rfl), F.ok sc (fun vs H Q E h => spP_len (Rof.len (n := 1) fun _ => rfl) h) fun cdv A outer s H vs Q E hr h => ⟨t_law_name K (clK K), PSs.nox ?_, spP_of (tt := t_law_name) (N := ["_law_cell", "_law_letters", "_law_number", "_law_name_here", "_law_k"]) (Rof.len (n := 1) fun _ => rfl) (by decide) (fun F hK hc ds d r => wp_law_name F ds d r) vs H Q E h⟩⟩
  exact (pss_cons (ps_set (i := 1) sc.nd rfl (by first | exact .inl rfl | exact .inr rfl) pe_str) (pss_cons (ps_set (i := 2) sc.nd rfl (by first | exact .inl rfl | exact .inr rfl) (pe_op op_fdivW (pv 0) pe_int)) (pss_cons (ps_set (i := 3) sc.nd rfl (by first | exact .inl rfl | exact .inr rfl) pe_str) (pss_cons (ps_for PassesOwn.never rfl (pi_range1 (by rfl) T.f_range (pa_cons (pe_op op_add pe_int (pe_op op_mod (pv 0) pe_int)) pa_nil)) (pg_name (i := 4) sc.nd rfl (by first | exact .inl rfl | exact .inr rfl)) (pss_cons (ps_set (i := 3) sc.nd rfl (by first | exact .inl rfl | exact .inr rfl) (pe_op op_addS (pv 3) (pe_ix ix_str (pv 1) (pe_op op_mod (pv 2) pe_int) (fun _ _ => rfl)))) (pss_one (ps_set (i := 2) sc.nd rfl (by first | exact .inl rfl | exact .inr rfl) (pe_op op_fdivW (pv 2) pe_int))))) (pss_one (ps_ret (pv 3)))))))
theorem o_law_pool (T : Tx P w K mg base) : OkF P w K mg base "_law_pool" 2 ["_law_cell"] (sp_law_pool K (clK K)) := by
  obtain ⟨fd, F⟩ := T.s.def_ 64 (d := d_law_pool) rfl
  have sc : FnScope ["_law_cell", "_law_number", "_law_letters", "_law_name_here", "_law_at", "_law_turned_here", "_law_other", "_law_great"] ["_law_cell"] (defScope s_law_pool) := ⟨rfl, rfl, rfl, by decide +kernel, rfl, by decide +kernel, by decide +kernel⟩
  refine ⟨_, fd, T.g_law_pool, F.kp, F.bindsN (fun _ _ _ _ _ _ us hl => match us, hl with | [_], _ => rfl), F.ok sc (fun vs H Q E h => spP_len (Rof.len (n := 1) fun _ => rfl) h) fun cdv A outer s H vs Q E hr h => ⟨t_law_pool K (clK K), PSs.nox ?_, spP_of (tt := t_law_pool) (N := ["_law_cell", "_law_number", "_law_letters", "_law_name_here", "_law_at", "_law_turned_here", "_law_other", "_law_great"]) (Rof.len (n := 1) fun _ => rfl) (by decide) (fun F hK hc ds d r => wp_law_pool F ds d r) vs H Q E h⟩⟩
  exact (pss_cons (ps_set (i := 1) sc.nd rfl (by first | exact .inl rfl | exact .inr rfl) (pe_cF (o_law_mix T) (hr.mono (by decide)) (by rfl) (pa_cons (pv 0) (pa_cons pe_int pa_nil)))) (pss_cons (ps_set (i := 2) sc.nd rfl (by first | exact .inl rfl | exact .inr rfl) pe_str) (pss_cons (ps_set (i := 3) sc.nd rfl (by first | exact .inl rfl | exact .inr rfl) (pe_cF (o_law_name T) (hr.mono (by decide)) (by rfl) (pa_cons (pv 1) pa_nil))) (pss_cons (ps_set (i := 1) sc.nd rfl (by first | exact .inl rfl | exact .inr rfl) (pe_op op_fdivW (pv 1) (pe_op op_mulW pe_int (pe_op op_powW pe_int pe_int)))) (pss_cons (ps_set (i := 4) sc.nd rfl (by first | exact .inl rfl | exact .inr rfl) (pe_op op_mod (pv 1) (pe_callB call_lenZ (by rfl) T.f_len bt_len (pa_cons (pv 3) pa_nil)))) (pss_cons (ps_set (i := 5) sc.nd rfl (by first | exact .inl rfl | exact .inr rfl) (pe_op op_add (pe_op op_add (pe_bm PySem.F.plainAttrs_str PySem.F.slot_str_index PySem.F.type_str_index mt_indexS (pv 2) (pa_cons (pe_ix ix_str (pv 3) (pv 4) (fun _ _ => rfl)) pa_nil)) pe_int) (pe_op op_mod (pe_op op_fdivW (pv 1) pe_int) pe_int))) (pss_cons (ps_set (i := 6) sc.nd rfl (by first | exact .inl rfl | exact .inr rfl) (pe_op op_addS (pe_op op_addS (pe_slice sl_str (pv 3) po_none (po_some (pv 4))) (pe_ix ix_str (pv 2) (pe_op op_mod (pv 5) pe_int) (fun _ _ => rfl))) (pe_slice sl_str (pv 3) (po_some (pe_op op_add (pv 4) pe_int)) po_none))) (pss_cons (ps_set (i := 1) sc.nd rfl (by first | exact .inl rfl | exact .inr rfl) (pe_op op_fdivW (pv 1) pe_int)) (pss_cons (ps_set (i := 7) sc.nd rfl (by first | exact .inl rfl | exact .inr rfl) (pe_op op_add (pe_op op_mod (pe_op op_powW (pe_op op_add (pe_op op_mulW (pe_op op_mod (pv 1) (pe_op op_powW pe_int pe_int)) pe_int) pe_int) pe_int) (pe_op op_sub (pe_op op_powW pe_int pe_int) pe_int)) pe_int)) (pss_cons (ps_if (pt_cmpR op_eq (pe_op op_mod (pv 1) pe_int) pe_int (nomark _)) (pss_one (ps_set (i := 7) sc.nd rfl (by first | exact .inl rfl | exact .inr rfl) (pe_op op_add (pe_op op_mod (pe_op op_fdivW (pv 1) pe_int) (pe_op op_sub (pe_op op_powW pe_int pe_int) pe_int)) pe_int))) pss_nil) (pss_one (ps_ret (pe_lst (pa_cons (pe_op op_mod (pe_op op_fdivW (pv 1) pe_int) pe_int) (pa_cons (pv 7) (pa_cons (pv 3) (pa_cons (pe_op op_sub pe_int (pv 7)) (pa_cons (pv 6) (pa_cons (pe_op op_add (pe_op op_mod (pe_op op_fdivW (pv 1) pe_int) pe_int) pe_int) (pa_cons (pe_op op_add (pv 7) pe_int) pa_nil))))))))))))))))))))
theorem o_law_tables (T : Tx P w K mg base) : OkF P w K mg base "_law_tables" 2 ["_law_cell", "_law_most"] (sp_law_tables K (clK K)) := by
  obtain ⟨fd, F⟩ := T.s.def_ 65 (d := d_law_tables) rfl
  have sc : FnScope ["_law_cell", "_law_most", "_law_number", "_law_many", "_law_tables_here", "_law_k", "_law_wide"] ["_law_cell", "_law_most"] (defScope s_law_tables) := ⟨rfl, rfl, rfl, by decide +kernel, rfl, by decide +kernel, by decide +kernel⟩
  refine ⟨_, fd, T.g_law_tables, F.kp, F.bindsN (fun _ _ _ _ _ _ us hl => match us, hl with | [_, _], _ => rfl), F.ok sc (fun vs H Q E h => spP_len (Rof.len (n := 2) fun _ => rfl) h) fun cdv A outer s H vs Q E hr h => ⟨t_law_tables K (clK K), PSs.nox ?_, spP_of (tt := t_law_tables) (N := ["_law_cell", "_law_most", "_law_number", "_law_many", "_law_tables_here", "_law_k", "_law_wide"]) (Rof.len (n := 2) fun _ => rfl) (by decide) (fun F hK hc ds d r => wp_law_tables F ds d r) vs H Q E h⟩⟩
  exact (pss_cons (ps_set (i := 2) sc.nd rfl (by first | exact .inl rfl | exact .inr rfl) (pe_cF (o_law_mix T) (hr.mono (by decide)) (by rfl) (pa_cons (pv 0) (pa_cons pe_int pa_nil)))) (pss_cons (ps_set (i := 3) sc.nd rfl (by first | exact .inl rfl | exact .inr rfl) (pe_op op_add pe_int (pe_op op_mod (pv 2) (pv 1)))) (pss_cons (ps_set (i := 2) sc.nd rfl (by first | exact .inl rfl | exact .inr rfl) (pe_op op_fdivW (pv 2) (pv 1))) (pss_cons (ps_set (i := 4) sc.nd rfl (by first | exact .inl rfl | exact .inr rfl) (pe_lst pa_nil)) (pss_cons (ps_for PassesOwn.never rfl (pi_range1 (by rfl) T.f_range (pa_cons (pv 3) pa_nil)) (pg_name (i := 5) sc.nd rfl (by first | exact .inl rfl | exact .inr rfl)) (pss_cons (ps_set (i := 6) sc.nd rfl (by first | exact .inl rfl | exact .inr rfl) (pe_op op_add pe_int (pe_op op_mod (pv 2) pe_int))) (pss_cons (ps_expr (pe_bm PySem.F.plainAttrs_list PySem.F.slot_list_append PySem.F.type_list_append mt_append (pv 4) (pa_cons (pe_tup (pa_cons (pv 6) (pa_cons (pe_op op_mod (pe_op op_fdivW (pv 2) pe_int) (pe_op op_add (pv 6) pe_int)) pa_nil))) pa_nil))) (pss_one (ps_set (i := 2) sc.nd rfl (by first | exact .inl rfl | exact .inr rfl) (pe_op op_fdivW (pv 2) pe_int)))))) (pss_one (ps_ret (pe_callTy call_tupleQ (by rfl) T.f_tuple bt_tuple (pa_cons (pv 4) pa_nil)))))))))
theorem o_law_row (T : Tx P w K mg base) : OkF P w K mg base "_law_row" 2 ["_law_cell", "_law_tables_here", "_law_pool_here", "_law_wide"] (sp_law_row K (clK K)) := by
  obtain ⟨fd, F⟩ := T.s.def_ 66 (d := d_law_row) rfl
  have sc : FnScope ["_law_cell", "_law_tables_here", "_law_pool_here", "_law_wide", "_law_number", "_law_t", "_law_cells", "_law_k"] ["_law_cell", "_law_tables_here", "_law_pool_here", "_law_wide"] (defScope s_law_row) := ⟨rfl, rfl, rfl, by decide +kernel, rfl, by decide +kernel, by decide +kernel⟩
  refine ⟨_, fd, T.g_law_row, F.kp, F.bindsN (fun _ _ _ _ _ _ us hl => match us, hl with | [_, _, _, _], _ => rfl), F.ok sc (fun vs H Q E h => spP_len (Rof.len (n := 4) fun _ => rfl) h) fun cdv A outer s H vs Q E hr h => ⟨t_law_row K (clK K), PSs.nox ?_, spP_of (tt := t_law_row) (N := ["_law_cell", "_law_tables_here", "_law_pool_here", "_law_wide", "_law_number", "_law_t", "_law_cells", "_law_k"]) (Rof.len (n := 4) fun _ => rfl) (by decide) (fun F hK hc ds d r => wp_law_row F ds d r) vs H Q E h⟩⟩
  exact (pss_cons (ps_set (i := 4) sc.nd rfl (by first | exact .inl rfl | exact .inr rfl) (pe_cF (o_law_mix T) (hr.mono (by decide)) (by rfl) (pa_cons (pv 0) (pa_cons pe_int pa_nil)))) (pss_cons (ps_set (i := 5) sc.nd rfl (by first | exact .inl rfl | exact .inr rfl) (pe_op op_mod (pv 4) (pe_callB call_lenQ (by rfl) T.f_len bt_len (pa_cons (pv 1) pa_nil)))) (pss_cons (ps_set (i := 4) sc.nd rfl (by first | exact .inl rfl | exact .inr rfl) (pe_op op_fdivW (pv 4) (pe_callB call_lenQ (by rfl) T.f_len bt_len (pa_cons (pv 1) pa_nil)))) (pss_cons (ps_set (i := 6) sc.nd rfl (by first | exact .inl rfl | exact .inr rfl) (pe_lst pa_nil)) (pss_cons (ps_for PassesOwn.never rfl (pi_range1 (by rfl) T.f_range (pa_cons (pe_ix ix_tup (pe_ix ix_tup (pv 1) (pv 5) (fun _ _ => rfl)) pe_int (fun _ _ => rfl)) pa_nil)) (pg_name (i := 7) sc.nd rfl (by first | exact .inl rfl | exact .inr rfl)) (pss_cons (ps_expr (pe_bm PySem.F.plainAttrs_list PySem.F.slot_list_append PySem.F.type_list_append mt_append (pv 6) (pa_cons (pe_ix ix_list (pv 2) (pe_op op_mod (pv 4) (pv 3)) (fun _ _ => rfl)) pa_nil))) (pss_one (ps_set (i := 4) sc.nd rfl (by first | exact .inl rfl | exact .inr rfl) (pe_op op_fdivW (pv 4) (pv 3)))))) (pss_one (ps_ret (pe_tup (pa_cons (pv 5) (pa_cons (pe_callTy call_tupleQ (by rfl) T.f_tuple bt_tuple (pa_cons (pv 6) pa_nil)) pa_nil))))))))))
theorem o_law_rows (T : Tx P w K mg base) : OkF P w K mg base "_law_rows" 3 ["_law_cells", "_law_tables_here", "_law_pool_here", "_law_wide"] (sp_law_rows K (clK K)) := by
  obtain ⟨fd, F⟩ := T.s.def_ 67 (d := d_law_rows) rfl
  have sc : FnScope ["_law_cells", "_law_tables_here", "_law_pool_here", "_law_wide", "_law_rows_here", "_law_cell", "_law_row_here"] ["_law_cells", "_law_tables_here", "_law_pool_here", "_law_wide"] (defScope s_law_rows) := ⟨rfl, rfl, rfl, by decide +kernel, rfl, by decide +kernel, by decide +kernel⟩
  refine ⟨_, fd, T.g_law_rows, F.kp, F.bindsN (fun _ _ _ _ _ _ us hl => match us, hl with | [_, _, _, _], _ => rfl), F.ok sc (fun vs H Q E h => spP_len (Rof.len (n := 4) fun _ => rfl) h) fun cdv A outer s H vs Q E hr h => ⟨t_law_rows K (clK K), PSs.nox ?_, spP_of (tt := t_law_rows) (N := ["_law_cells", "_law_tables_here", "_law_pool_here", "_law_wide", "_law_rows_here", "_law_cell", "_law_row_here"]) (Rof.len (n := 4) fun _ => rfl) (by decide) (fun F hK hc ds d r => wp_law_rows F ds d r) vs H Q E h⟩⟩
  exact (pss_cons (ps_set (i := 4) sc.nd rfl (by first | exact .inl rfl | exact .inr rfl) (pe_lst pa_nil)) (pss_cons (ps_for PassesOwn.never rfl (pi_list (pv 0)) (pg_name (i := 5) sc.nd rfl (by first | exact .inl rfl | exact .inr rfl)) (pss_cons (ps_set (i := 6) sc.nd rfl (by first | exact .inl rfl | exact .inr rfl) (pe_cF (o_law_row T) (hr.mono (by decide)) (by rfl) (pa_cons (pv 5) (pa_cons (pv 1) (pa_cons (pv 2) (pa_cons (pv 3) pa_nil)))))) (pss_one (ps_if (pt_cmpR (op_notInD (hu65 hr)) (pv 6) (pv 4) (by with_unfolding_all rfl)) (pss_one (ps_expr (pe_bm PySem.F.plainAttrs_list PySem.F.slot_list_append PySem.F.type_list_append mt_append (pv 4) (pa_cons (pv 6) pa_nil)))) pss_nil)))) (pss_one (ps_ret (pe_callTy call_tupleQ (by rfl) T.f_tuple bt_tuple (pa_cons (pv 4) pa_nil))))))
theorem o_law_take (T : Tx P w K mg base) : OkF P w K mg base "_law_take" 1 ["_law_state", "_law_size"] (sp_law_take K (clK K)) := by
  obtain ⟨fd, F⟩ := T.s.def_ 68 (d := d_law_take) rfl
  have sc : FnScope ["_law_state", "_law_size", "_law_found"] ["_law_state", "_law_size"] (defScope s_law_take) := ⟨rfl, rfl, rfl, by decide +kernel, rfl, by decide +kernel, by decide +kernel⟩
  refine ⟨_, fd, T.g_law_take, F.kp, F.bindsN (fun _ _ _ _ _ _ us hl => match us, hl with | [_, _], _ => rfl), F.ok sc (fun vs H Q E h => spM_len (RofM.len (n := 1) fun _ => rfl) h) fun cdv A outer s H vs Q E hr h => ⟨t_law_take K (clK K), PSs.nox ?_, spM_of (tt := t_law_take) (n0 := "_law_state") (N := ["_law_size", "_law_found"]) (RofM.len (n := 1) fun _ => rfl) (by decide) (fun F hK hc s ds d s' r => wp_law_take F s ds d s' r) vs H Q E h⟩⟩
  exact (pss_cons (ps_set (i := 2) sc.nd rfl (by first | exact .inl rfl | exact .inr rfl) (pe_op op_mod (pe_ix ix_list (pv 0) pe_int (fun _ _ => rfl)) (pv 1))) (pss_cons (ps_asg (pe_op op_fdivW (pe_ix ix_list (pv 0) pe_int (fun _ _ => rfl)) (pv 1)) (pg_sub (pv 0) pe_int set_list)) (pss_one (ps_ret (pv 2)))))
theorem o_law_side (T : Tx P w K mg base) : OkF P w K mg base "_law_side" 2 ["_law_state", "_law_there", "_law_tables_here", "_law_pool_here"] (sp_law_side K (clK K)) := by
  obtain ⟨fd, F⟩ := T.s.def_ 69 (d := d_law_side) rfl
  have sc : FnScope ["_law_state", "_law_there", "_law_tables_here", "_law_pool_here", "_law_k"] ["_law_state", "_law_there", "_law_tables_here", "_law_pool_here"] (defScope s_law_side) := ⟨rfl, rfl, rfl, by decide +kernel, rfl, by decide +kernel, by decide +kernel⟩
  refine ⟨_, fd, T.g_law_side, F.kp, F.bindsN (fun _ _ _ _ _ _ us hl => match us, hl with | [_, _, _, _], _ => rfl), F.ok sc (fun vs H Q E h => spM_len (RofM.len (n := 3) fun _ => rfl) h) fun cdv A outer s H vs Q E hr h => ⟨t_law_side K (clK K), PSs.nox ?_, spM_of (tt := t_law_side) (n0 := "_law_state") (N := ["_law_there", "_law_tables_here", "_law_pool_here", "_law_k"]) (RofM.len (n := 3) fun _ => rfl) (by decide) (fun F hK hc s ds d s' r => wp_law_side F s ds d s' r) vs H Q E h⟩⟩
  exact (pss_cons (ps_if (pt_cmpR op_eq (pe_cF (o_law_take T) (hr.mono (by decide)) (by rfl) (pa_cons (pv 0) (pa_cons pe_int pa_nil))) pe_int (nomark _)) (pss_one (ps_ret (pe_tup (pa_cons pe_str (pa_cons (pe_ix ix_list (pv 3) (pe_cF (o_law_take T) (hr.mono (by decide)) (by rfl) (pa_cons (pv 0) (pa_cons pe_int pa_nil))) (fun _ _ => rfl)) pa_nil))))) pss_nil) (pss_cons (ps_set (i := 4) sc.nd rfl (by first | exact .inl rfl | exact .inr rfl) (pe_cF (o_law_take T) (hr.mono (by decide)) (by rfl) (pa_cons (pv 0) (pa_cons (pe_callB call_lenQ (by rfl) T.f_len bt_len (pa_cons (pv 1) pa_nil)) pa_nil)))) (pss_one (ps_ret (pe_tup (pa_cons pe_str (pa_cons (pv 4) (pa_cons (pe_cF (o_law_take T) (hr.mono (by decide)) (by rfl) (pa_cons (pv 0) (pa_cons (pe_ix ix_tup (pe_ix ix_tup (pv 2) (pe_ix ix_tup (pv 1) (pv 4) (fun _ _ => rfl)) (fun _ _ => rfl)) pe_int (fun _ _ => rfl)) pa_nil))) pa_nil))))))))
theorem o_law_tests (T : Tx P w K mg base) : OkF P w K mg base "_law_tests" 3 ["_law_state", "_law_there", "_law_tables_here", "_law_pool_here"] (sp_law_tests K (clK K)) := by
  obtain ⟨fd, F⟩ := T.s.def_ 70 (d := d_law_tests) rfl
  have sc : FnScope ["_law_state", "_law_there", "_law_tables_here", "_law_pool_here", "_law_tests_here", "_law_k", "_law_word", "_law_left"] ["_law_state", "_law_there", "_law_tables_here", "_law_pool_here"] (defScope s_law_tests) := ⟨rfl, rfl, rfl, by decide +kernel, rfl, by decide +kernel, by decide +kernel⟩
  refine ⟨_, fd, T.g_law_tests, F.kp, F.bindsN (fun _ _ _ _ _ _ us hl => match us, hl with | [_, _, _, _], _ => rfl), F.ok sc (fun vs H Q E h => spM_len (RofM.len (n := 3) fun _ => rfl) h) fun cdv A outer s H vs Q E hr h => ⟨t_law_tests K (clK K), PSs.nox ?_, spM_of (tt := t_law_tests) (n0 := "_law_state") (N := ["_law_there", "_law_tables_here", "_law_pool_here", "_law_tests_here", "_law_k", "_law_word", "_law_left"]) (RofM.len (n := 3) fun _ => rfl) (by decide) (fun F hK hc s ds d s' r => wp_law_tests F s ds d s' r) vs H Q E h⟩⟩
  exact (pss_cons (ps_set (i := 4) sc.nd rfl (by first | exact .inl rfl | exact .inr rfl) (pe_lst pa_nil)) (pss_cons (ps_for PassesOwn.never rfl (pi_range1 (by rfl) T.f_range (pa_cons (pe_ix ix_list (pe_lst (pa_cons pe_int (pa_cons pe_int (pa_cons pe_int (pa_cons pe_int (pa_cons pe_int (pa_cons pe_int pa_nil))))))) (pe_cF (o_law_take T) (hr.mono (by decide)) (by rfl) (pa_cons (pv 0) (pa_cons pe_int pa_nil))) (fun _ _ => rfl)) pa_nil)) (pg_name (i := 5) sc.nd rfl (by first | exact .inl rfl | exact .inr rfl)) (pss_cons (ps_set (i := 6) sc.nd rfl (by first | exact .inl rfl | exact .inr rfl) (pe_ix ix_list (pe_lst (pa_cons pe_str (pa_cons pe_str (pa_cons pe_str pa_nil)))) (pe_cF (o_law_take T) (hr.mono (by decide)) (by rfl) (pa_cons (pv 0) (pa_cons pe_int pa_nil))) (fun _ _ => rfl))) (pss_cons (ps_set (i := 7) sc.nd rfl (by first | exact .inl rfl | exact .inr rfl) (pe_cF (o_law_side T) (hr.mono (by decide)) (by rfl) (pa_cons (pv 0) (pa_cons (pv 1) (pa_cons (pv 2) (pa_cons (pv 3) pa_nil)))))) (pss_one (ps_expr (pe_bm PySem.F.plainAttrs_list PySem.F.slot_list_append PySem.F.type_list_append mt_append (pv 4) (pa_cons (pe_tup (pa_cons (pv 7) (pa_cons (pv 6) (pa_cons (pe_cF (o_law_side T) (hr.mono (by decide)) (by rfl) (pa_cons (pv 0) (pa_cons (pv 1) (pa_cons (pv 2) (pa_cons (pv 3) pa_nil))))) pa_nil)))) pa_nil))))))) (pss_one (ps_ret (pe_callTy call_tupleQ (by rfl) T.f_tuple bt_tuple (pa_cons (pv 4) pa_nil))))))
theorem o_law_rule (T : Tx P w K mg base) : OkF P w K mg base "_law_rule" 4 ["_law_cell", "_law_tables_here", "_law_pool_here"] (sp_law_rule K (clK K)) := by
  obtain ⟨fd, F⟩ := T.s.def_ 71 (d := d_law_rule) rfl
  have sc : FnScope ["_law_cell", "_law_tables_here", "_law_pool_here", "_law_state", "_law_kind", "_law_t", "_law_u", "_law_many", "_law_columns", "_law_k"] ["_law_cell", "_law_tables_here", "_law_pool_here"] (defScope s_law_rule) := ⟨rfl, rfl, rfl, by decide +kernel, rfl, by decide +kernel, by decide +kernel⟩
  refine ⟨_, fd, T.g_law_rule, F.kp, F.bindsN (fun _ _ _ _ _ _ us hl => match us, hl with | [_, _, _], _ => rfl), F.ok sc (fun vs H Q E h => spP_len (Rof.len (n := 3) fun _ => rfl) h) fun cdv A outer s H vs Q E hr h => ⟨t_law_rule K (clK K), PSs.nox ?_, spP_of (tt := t_law_rule) (N := ["_law_cell", "_law_tables_here", "_law_pool_here", "_law_state", "_law_kind", "_law_t", "_law_u", "_law_many", "_law_columns", "_law_k"]) (Rof.len (n := 3) fun _ => rfl) (by decide) (fun F hK hc ds d r => wp_law_rule F ds d r) vs H Q E h⟩⟩
  exact (pss_cons (ps_set (i := 3) sc.nd rfl (by first | exact .inl rfl | exact .inr rfl) (pe_lst (pa_cons (pe_cF (o_law_mix T) (hr.mono (by decide)) (by rfl) (pa_cons (pv 0) (pa_cons pe_int pa_nil))) pa_nil))) (pss_cons (ps_set (i := 4) sc.nd rfl (by first | exact .inl rfl | exact .inr rfl) (pe_cF (o_law_take T) (hr.mono (by decide)) (by rfl) (pa_cons (pv 3) (pa_cons pe_int pa_nil)))) (pss_cons (ps_set (i := 5) sc.nd rfl (by first | exact .inl rfl | exact .inr rfl) (pe_cF (o_law_take T) (hr.mono (by decide)) (by rfl) (pa_cons (pv 3) (pa_cons (pe_callB call_lenQ (by rfl) T.f_len bt_len (pa_cons (pv 1) pa_nil)) pa_nil)))) (pss_cons (ps_set (i := 6) sc.nd rfl (by first | exact .inl rfl | exact .inr rfl) (pe_cF (o_law_take T) (hr.mono (by decide)) (by rfl) (pa_cons (pv 3) (pa_cons (pe_callB call_lenQ (by rfl) T.f_len bt_len (pa_cons (pv 1) pa_nil)) pa_nil)))) (pss_cons (ps_if (pt_cmpR op_eq (pv 4) pe_int (nomark _)) (pss_one (ps_ret (pe_tup (pa_cons pe_str (pa_cons (pv 5) (pa_cons (pe_cF (o_law_tests T) (hr.mono (by decide)) (by rfl) (pa_cons (pv 3) (pa_cons (pe_tup (pa_cons (pv 5) pa_nil)) (pa_cons (pv 1) (pa_cons (pv 2) pa_nil))))) pa_nil)))))) pss_nil) (pss_cons (ps_if (pt_cmpR op_lt (pv 4) pe_int (nomark _)) (pss_one (ps_ret (pe_tup (pa_cons pe_str (pa_cons (pv 5) (pa_cons (pv 6) (pa_cons (pe_cF (o_law_tests T) (hr.mono (by decide)) (by rfl) (pa_cons (pv 3) (pa_cons (pe_tup (pa_cons (pv 5) (pa_cons (pv 6) pa_nil))) (pa_cons (pv 1) (pa_cons (pv 2) pa_nil))))) pa_nil))))))) pss_nil) (pss_cons (ps_set (i := 7) sc.nd rfl (by first | exact .inl rfl | exact .inr rfl) (pe_ix ix_list (pe_lst (pa_cons pe_int (pa_cons pe_int (pa_cons pe_int (pa_cons pe_int (pa_cons pe_int pa_nil)))))) (pe_cF (o_law_take T) (hr.mono (by decide)) (by rfl) (pa_cons (pv 3) (pa_cons pe_int pa_nil))) (fun _ _ => rfl))) (pss_cons (ps_set (i := 8) sc.nd rfl (by first | exact .inl rfl | exact .inr rfl) (pe_callTy call_tupleQ (by rfl) T.f_tuple bt_tuple (pa_cons (pe_lc (own := [("_law_k", 9)]) (g := (gName 9)) (tt := tYes) rfl sc.nd (pi_range1 (by rfl) T.f_range (pa_cons (pv 7) pa_nil)) (blkOk_by (own := [("_law_k", 9)]) (by kernel_rfl)) (fun _ _ _ _ _ => (pg_name (i := 9) sc.nd rfl (by first | exact .inl rfl | exact .inr rfl))) (fun _ _ _ _ _ => pts_nil) (fun _ _ _ _ _ => (pe_cF (o_law_take T) (hr.mono (by decide)) (by rfl) (pa_cons (pv 3) (pa_cons (pe_ix ix_tup (pe_ix ix_tup (pv 1) (pv 5) (fun _ _ => rfl)) pe_int (fun _ _ => rfl)) pa_nil))))) pa_nil))) (pss_one (ps_ret (pe_tup (pa_cons pe_str (pa_cons (pv 5) (pa_cons (pv 8) (pa_cons (pv 6) (pa_cons (pe_callTy call_tupleQ (by rfl) T.f_tuple bt_tuple (pa_cons (pe_lc (own := [("_law_k", 9)]) (g := (gName 9)) (tt := tYes) rfl sc.nd (pi_range1 (by rfl) T.f_range (pa_cons (pv 7) pa_nil)) (blkOk_by (own := [("_law_k", 9)]) (by kernel_rfl)) (fun _ _ _ _ _ => (pg_name (i := 9) sc.nd rfl (by first | exact .inl rfl | exact .inr rfl))) (fun _ _ _ _ _ => pts_nil) (fun _ _ _ _ _ => (pe_cF (o_law_take T) (hr.mono (by decide)) (by rfl) (pa_cons (pv 3) (pa_cons (pe_ix ix_tup (pe_ix ix_tup (pv 1) (pv 6) (fun _ _ => rfl)) pe_int (fun _ _ => rfl)) pa_nil))))) pa_nil)) pa_nil))))))))))))))))
theorem o_law_idle (T : Tx P w K mg base) : OkF P w K mg base "_law_idle" 1 ["_law_cell", "_law_tables_here"] (sp_law_idle K (clK K)) := by
  obtain ⟨fd, F⟩ := T.s.def_ 72 (d := d_law_idle) rfl
  have sc : FnScope ["_law_cell", "_law_tables_here", "_law_left"] ["_law_cell", "_law_tables_here"] (defScope s_law_idle) := ⟨rfl, rfl, rfl, by decide +kernel, rfl, by decide +kernel, by decide +kernel⟩
  refine ⟨_, fd, T.g_law_idle, F.kp, F.bindsN (fun _ _ _ _ _ _ us hl => match us, hl with | [_, _], _ => rfl), F.ok sc (fun vs H Q E h => spP_len (Rof.len (n := 2) fun _ => rfl) h) fun cdv A outer s H vs Q E hr h => ⟨t_law_idle K (clK K), PSs.nox ?_, spP_of (tt := t_law_idle) (N := ["_law_cell", "_law_tables_here", "_law_left"]) (Rof.len (n := 2) fun _ => rfl) (by decide) (fun F hK hc ds d r => wp_law_idle F ds d r) vs H Q E h⟩⟩
  exact (pss_cons (ps_set (i := 2) sc.nd rfl (by first | exact .inl rfl | exact .inr rfl) (pe_tup (pa_cons pe_str (pa_cons (pe_op op_mod (pv 0) pe_int) pa_nil)))) (pss_one (ps_ret (pe_tup (pa_cons pe_str (pa_cons (pe_op op_mod (pe_op op_fdivW (pv 0) pe_int) (pe_callB call_lenQ (by rfl) T.f_len bt_len (pa_cons (pv 1) pa_nil))) (pa_cons (pe_tup (pa_cons (pe_tup (pa_cons (pv 2) (pa_cons pe_str (pa_cons (pe_tup (pa_cons pe_str (pa_cons (pe_op op_add (pe_op op_add (pe_op op_mod (pv 0) pe_int) pe_int) (pe_op op_mod (pe_op op_fdivW (pv 0) pe_int) pe_int)) pa_nil))) pa_nil)))) pa_nil)) pa_nil)))))))
theorem o_law_whole (T : Tx P w K mg base) : OkF P w K mg base "_law_whole" 1 ["_law_thing"] (sp_law_whole K (clK K)) := by
  obtain ⟨fd, F⟩ := T.s.def_ 73 (d := d_law_whole) rfl
  have sc : FnScope ["_law_thing"] ["_law_thing"] (defScope s_law_whole) := ⟨rfl, rfl, rfl, by decide +kernel, rfl, by decide +kernel, by decide +kernel⟩
  refine ⟨_, fd, T.g_law_whole, F.kp, F.bindsN (fun _ _ _ _ _ _ us hl => match us, hl with | [_], _ => rfl), F.ok sc (fun vs H Q E h => spP_len (Rof.len (n := 1) fun _ => rfl) h) fun cdv A outer s H vs Q E hr h => ⟨t_law_whole K (clK K), PSs.nox ?_, spP_of (tt := t_law_whole) (N := ["_law_thing"]) (Rof.len (n := 1) fun _ => rfl) (by decide) (fun F hK hc ds d r => wp_law_whole F ds d r) vs H Q E h⟩⟩
  exact (pss_one (ps_ret (pe_and (pe_callB call_isi (by rfl) T.f_isinstance bt_isinstance (pa_cons (pv 0) (pa_cons (pe_bltn (v := V.ty "int") (by rfl) T.f_int bt_int rfl) pa_nil))) (pe_one (pe_not (pe_callB call_isi (by rfl) T.f_isinstance bt_isinstance (pa_cons (pv 0) (pa_cons (pe_bltn (v := V.ty "bool") (by rfl) T.f_bool bt_bool rfl) pa_nil))))))))
theorem o_law_turned (T : Tx P w K mg base) : OkF P w K mg base "_law_turned" 1 ["_law_rows_here"] (sp_law_turned K (clK K)) := by
  obtain ⟨fd, F⟩ := T.s.def_ 74 (d := d_law_turned) rfl
  have sc : FnScope ["_law_rows_here", "_law_turned_here", "_law_t", "_law_cells", "_law_value"] ["_law_rows_here"] (defScope s_law_turned) := ⟨rfl, rfl, rfl, by decide +kernel, rfl, by decide +kernel, by decide +kernel⟩
  refine ⟨_, fd, T.g_law_turned, F.kp, F.bindsN (fun _ _ _ _ _ _ us hl => match us, hl with | [_], _ => rfl), F.ok sc (fun vs H Q E h => spP_len (Rof.len (n := 1) fun _ => rfl) h) fun cdv A outer s H vs Q E hr h => ⟨t_law_turned K (clK K), PSs.nox ?_, spP_of (tt := t_law_turned) (N := ["_law_rows_here", "_law_turned_here", "_law_t", "_law_cells", "_law_value"]) (Rof.len (n := 1) fun _ => rfl) (by decide) (fun F hK hc ds d r => wp_law_turned F ds d r) vs H Q E h⟩⟩
  exact (pss_cons (ps_set (i := 1) sc.nd rfl (by first | exact .inl rfl | exact .inr rfl) (pe_lst pa_nil)) (pss_cons (ps_for PassesOwn.never rfl (pi_tup (pv 0)) (pg_tup rfl (pgs_cons (pg_name (i := 2) sc.nd rfl (by first | exact .inl rfl | exact .inr rfl)) (pgs_cons (pg_name (i := 3) sc.nd rfl (by first | exact .inl rfl | exact .inr rfl)) pgs_nil))) (pss_one (ps_expr (pe_bm PySem.F.plainAttrs_list PySem.F.slot_list_append PySem.F.type_list_append mt_append (pv 1) (pa_cons (pe_tup (pa_cons (pv 2) (pa_cons (pe_callTy call_tupleQ (by rfl) T.f_tuple bt_tuple (pa_cons (pe_lc (own := [("_law_value", 4)]) (g := (gName 4)) (tt := tYes) rfl sc.nd (pi_tup (pv 3)) (blkOk_by (own := [("_law_value", 4)]) (by kernel_rfl)) (fun _ _ _ _ _ => (pg_name (i := 4) sc.nd rfl (by first | exact .inl rfl | exact .inr rfl))) (fun _ _ _ _ _ => pts_nil) (fun _ _ _ _ _ => (pe_ifExp (pt_val (pe_callB call_isi (by rfl) T.f_isinstance bt_isinstance (pa_cons (pv 4) (pa_cons (pe_bltn (v := V.ty "str") (by rfl) T.f_str bt_str rfl) pa_nil)))) (pv 4) (pe_op op_sub pe_int (pv 4))))) pa_nil)) pa_nil))) pa_nil))))) (pss_one (ps_ret (pe_callTy call_tupleQ (by rfl) T.f_tuple bt_tuple (pa_cons (pv 1) pa_nil))))))
theorem o_law_total (T : Tx P w K mg base) : OkF P w K mg base "_law_total" 1 ["_law_rows_here", "_law_some", "_law_t", "_law_c"] (sp_law_total K (clK K)) := by
  obtain ⟨fd, F⟩ := T.s.def_ 75 (d := d_law_total) rfl
  have sc : FnScope ["_law_rows_here", "_law_some", "_law_t", "_law_c", "_law_total_here", "_law_place"] ["_law_rows_here", "_law_some", "_law_t", "_law_c"] (defScope s_law_total) := ⟨rfl, rfl, rfl, by decide +kernel, rfl, by decide +kernel, by decide +kernel⟩
  refine ⟨_, fd, T.g_law_total, F.kp, F.bindsN (fun _ _ _ _ _ _ us hl => match us, hl with | [_, _, _, _], _ => rfl), F.ok sc (fun vs H Q E h => spP_len (Rof.len (n := 4) fun _ => rfl) h) fun cdv A outer s H vs Q E hr h => ⟨t_law_total K (clK K), PSs.nox ?_, spP_of (tt := t_law_total) (N := ["_law_rows_here", "_law_some", "_law_t", "_law_c", "_law_total_here", "_law_place"]) (Rof.len (n := 4) fun _ => rfl) (by decide) (fun F hK hc ds d r => wp_law_total F ds d r) vs H Q E h⟩⟩
  exact (pss_cons (ps_set (i := 4) sc.nd rfl (by first | exact .inl rfl | exact .inr rfl) pe_int) (pss_cons (ps_for PassesOwn.never rfl (pi_tup (pv 1)) (pg_name (i := 5) sc.nd rfl (by first | exact .inl rfl | exact .inr rfl)) (pss_one (ps_if (PW.pt (pw_and (pt_cmpR op_eq (pe_ix ix_tup (pe_ix ix_tup (pv 0) (pv 5) (fun _ _ => rfl)) pe_int (fun _ _ => rfl)) (pv 2) (nomark _)) (pw_and1 (pt_not (pt_val (pe_callB call_isi (by rfl) T.f_isinstance bt_isinstance (pa_cons (pe_ix ix_tup (pe_ix ix_tup (pe_ix ix_tup (pv 0) (pv 5) (fun _ _ => rfl)) pe_int (fun _ _ => rfl)) (pv 3) (fun _ _ => rfl)) (pa_cons (pe_bltn (v := V.ty "str") (by rfl) T.f_str bt_str rfl) pa_nil)))))))) (pss_one (ps_set (i := 4) sc.nd rfl (by first | exact .inl rfl | exact .inr rfl) (pe_op op_add (pv 4) (pe_ix ix_tup (pe_ix ix_tup (pe_ix ix_tup (pv 0) (pv 5) (fun _ _ => rfl)) pe_int (fun _ _ => rfl)) (pv 3) (fun _ _ => rfl))))) pss_nil))) (pss_one (ps_ret (pv 4)))))
theorem o_law_told_right (T : Tx P w K mg base) : OkF P w K mg base "_law_told_right" 10 ["_law_book", "_law_told", "_law_totals", "_law_t", "_law_c"] (sp_law_told_right K (clK K)) := by
  obtain ⟨fd, F⟩ := T.s.def_ 76 (d := d_law_told_right) rfl
  have sc : FnScope ["_law_book", "_law_told", "_law_totals", "_law_t", "_law_c", "_law_k"] ["_law_book", "_law_told", "_law_totals", "_law_t", "_law_c"] (defScope s_law_told_right) := ⟨rfl, rfl, rfl, by decide +kernel, rfl, by decide +kernel, by decide +kernel⟩
  refine ⟨_, fd, T.g_law_told_right, F.kp, F.bindsN (fun _ _ _ _ _ _ us hl => match us, hl with | [_, _, _, _, _], _ => rfl), F.ok sc (fun vs H Q E h => spP_len (Rof.len (n := 5) fun _ => rfl) h) fun cdv A outer s H vs Q E hr h => ⟨t_law_told_right K (clK K), PSs.nox ?_, spP_of (tt := t_law_told_right) (N := ["_law_book", "_law_told", "_law_totals", "_law_t", "_law_c", "_law_k"]) (Rof.len (n := 5) fun _ => rfl) (by decide) (fun F hK hc ds d r => wp_law_told_right F ds d r) vs H Q E h⟩⟩
  exact (pss_cons (ps_if (PW.pt (pw_or (pt_not (pt_val (pe_callB call_isi (by rfl) T.f_isinstance bt_isinstance (pa_cons (pv 1) (pa_cons (pe_bltn (v := V.ty "tuple") (by rfl) T.f_tuple bt_tuple rfl) pa_nil))))) (pw_or (pt_cmpR op_ne (pe_callB call_lenQ (by rfl) T.f_len bt_len (pa_cons (pv 1) pa_nil)) pe_int (nomark _)) (pw_or (pt_not (pt_val (pe_cF (o_law_whole T) (hr.mono (by decide)) (by rfl) (pa_cons (pe_ix ix_tup (pv 1) pe_int (fun _ _ => rfl)) pa_nil)))) (pw_or1 (pt_not (pt_val (pe_cF (o_law_whole T) (hr.mono (by decide)) (by rfl) (pa_cons (pe_ix ix_tup (pv 1) pe_int (fun _ _ => rfl)) pa_nil))))))))) (pss_one (ps_ret pe_bl)) pss_nil) (pss_cons (ps_if (PW.pt (pw_or (pt_cmpR op_ne (pe_ix ix_tup (pv 1) pe_int (fun _ _ => rfl)) (pe_callB (cr_min rfl) (by rfl) T.f_min bt_min (pa_cons (pv 2) pa_nil)) (nomark _)) (pw_or1 (pt_cmpR op_ne (pe_ix ix_tup (pv 1) pe_int (fun _ _ => rfl)) (pe_callB (cr_max rfl) (by rfl) T.f_max bt_max (pa_cons (pv 2) pa_nil)) (nomark _))))) (pss_one (ps_ret pe_bl)) pss_nil) (pss_cons (ps_for PassesOwn.never rfl (pi_tup (pe_tup (pa_cons pe_int (pa_cons pe_int pa_nil)))) (pg_name (i := 5) sc.nd rfl (by first | exact .inl rfl | exact .inr rfl)) (pss_cons (ps_if (PW.pt (pw_or (pt_cmpR op_notBl (pe_cF (o_is_mended T) (hr.mono (by decide)) (by rfl) (pa_cons (pv 0) (pa_cons (pe_ix ix_tup (pv 1) (pv 5) (fun _ _ => rfl)) pa_nil))) pe_bl (nomark _)) (pw_or1 (pt_cmpR op_ne (pe_cF (o_law_total T) (hr.mono (by decide)) (by rfl) (pa_cons (pe_ix ix_tup (pv 0) pe_int (fun _ _ => rfl)) (pa_cons (pe_ix ix_tup (pv 1) (pv 5) (fun _ _ => rfl)) (pa_cons (pv 3) (pa_cons (pv 4) pa_nil))))) (pe_ix ix_tup (pv 1) (pe_op op_sub (pv 5) pe_int) (fun _ _ => rfl)) (nomark _))))) (pss_one (ps_ret pe_bl)) pss_nil) (pss_one (ps_if (pt_cmpR op_ne (pe_cF (o_sum_in T) (hr.mono (by decide)) (by rfl) (pa_cons (pv 0) (pa_cons (pe_ix ix_tup (pv 1) (pv 5) (fun _ _ => rfl)) (pa_cons (pv 3) (pa_cons (pv 4) pa_nil))))) (pe_ix ix_tup (pv 1) (pe_op op_sub (pv 5) pe_int) (fun _ _ => rfl)) (nomark _)) (pss_one (ps_ret pe_bl)) pss_nil)))) (pss_one (ps_ret pe_bl)))))
theorem o_law_column_right (T : Tx P w K mg base) : OkF P w K mg base "_law_column_right" 11 ["_law_book", "_law_some", "_law_t", "_law_c", "_law_idle_here"] (sp_law_column_right K (clK K)) := by
  obtain ⟨fd, F⟩ := T.s.def_ 77 (d := d_law_column_right) rfl
  have sc : FnScope ["_law_book", "_law_some", "_law_t", "_law_c", "_law_idle_here", "_law_tables_here", "_law_rules", "_law_rows_here", "_law_told", "_law_totals", "_law_one", "_law_every", "_law_total_here", "_law_through", "_law_turned_here", "_law_due"] ["_law_book", "_law_some", "_law_t", "_law_c", "_law_idle_here"] (defScope s_law_column_right) := ⟨rfl, rfl, rfl, by decide +kernel, rfl, by decide +kernel, by decide +kernel⟩
  refine ⟨_, fd, T.g_law_column_right, F.kp, F.bindsN (fun _ _ _ _ _ _ us hl => match us, hl with | [_, _, _, _, _], _ => rfl), F.ok sc (fun vs H Q E h => spP_len (Rof.len (n := 5) fun _ => rfl) h) fun cdv A outer s H vs Q E hr h => ⟨t_law_column_right K (clK K), PSs.nox ?_, spP_of (tt := t_law_column_right) (N := ["_law_book", "_law_some", "_law_t", "_law_c", "_law_idle_here", "_law_tables_here", "_law_rules", "_law_rows_here", "_law_told", "_law_totals", "_law_one", "_law_every", "_law_total_here", "_law_through", "_law_turned_here", "_law_due"]) (Rof.len (n := 5) fun _ => rfl) (by decide) (fun F hK hc ds d r => wp_law_column_right F ds d r) vs H Q E h⟩⟩
  exact (pss_cons (ps_asg (pv 0) (pg_tup rfl (pgs_cons (pg_name (i := 5) sc.nd rfl (by first | exact .inl rfl | exact .inr rfl)) (pgs_cons (pg_name (i := 6) sc.nd rfl (by first | exact .inl rfl | exact .inr rfl)) (pgs_cons (pg_name (i := 7) sc.nd rfl (by first | exact .inl rfl | exact .inr rfl)) pgs_nil))))) (pss_cons (ps_set (i := 8) sc.nd rfl (by first | exact .inl rfl | exact .inr rfl) (pe_cF (o_sums T) (hr.mono (by decide)) (by rfl) (pa_cons (pv 0) (pa_cons (pv 2) (pa_cons (pv 3) pa_nil))))) (pss_cons (ps_setLc (i := 9) (own := [("_law_one", 10)]) (g := (gName 10)) (tt := tYes) rfl sc.nd rfl rfl (sw_true rfl rfl rfl (by kernel_rfl)) (pi_list (pv 1)) (blkOk_by (own := [("_law_one", 10)]) (by kernel_rfl)) (fun _ _ _ _ _ => (pg_name (i := 10) sc.nd rfl (by first | exact .inl rfl | exact .inr rfl))) (fun _ _ _ _ _ => pts_nil) (fun _ _ _ _ _ => (pe_cF (o_law_total T) (hr.mono (by decide)) (by rfl) (pa_cons (pv 7) (pa_cons (pv 10) (pa_cons (pv 2) (pa_cons (pv 3) pa_nil))))))) (pss_cons (ps_if (pt_not (pt_val (pe_cF (o_law_told_right T) (hr.mono (by decide)) (by rfl) (pa_cons (pv 0) (pa_cons (pv 8) (pa_cons (pv 9) (pa_cons (pv 2) (pa_cons (pv 3) pa_nil)))))))) (pss_one (ps_ret pe_bl)) pss_nil) (pss_cons (ps_set (i := 11) sc.nd rfl (by first | exact .inl rfl | exact .inr rfl) (pe_tupRg rfl (by rfl) T.f_tuple (prg_1 (by rfl) T.f_range (pe_callB call_lenQ (by rfl) T.f_len bt_len (pa_cons (pv 7) pa_nil))))) (pss_cons (ps_set (i := 12) sc.nd rfl (by first | exact .inl rfl | exact .inr rfl) (pe_cF (o_law_total T) (hr.mono (by decide)) (by rfl) (pa_cons (pv 7) (pa_cons (pv 11) (pa_cons (pv 2) (pa_cons (pv 3) pa_nil)))))) (pss_cons (ps_if (PW.pt (pw_and (pt_val (pe_cF (o_good T) (hr.mono (by decide)) (by rfl) (pa_cons (pv 0) (pa_cons (pv 11) pa_nil)))) (pw_and1 (PW.pt (pw_or (pt_cmpR op_ne (pe_ix ix_tup (pv 8) pe_int (fun _ _ => rfl)) (pv 12) (nomark _)) (pw_or1 (pt_cmpR op_ne (pe_ix ix_tup (pv 8) pe_int (fun _ _ => rfl)) (pv 12) (nomark _)))))))) (pss_one (ps_ret pe_bl)) pss_nil) (pss_cons (ps_if (pt_val (pe_cF (o_is_plain T) (hr.mono (by decide)) (by rfl) (pa_cons (pv 0) pa_nil))) (pss_cons (ps_set (i := 13) sc.nd rfl (by first | exact .inl rfl | exact .inr rfl) (pe_cF (o_sums T) (hr.mono (by decide)) (by rfl) (pa_cons (pe_cF (o_book_of T) (hr.mono (by decide)) (by rfl) (pa_cons (pv 5) (pa_cons (pe_tup (pa_cons (pv 4) pa_nil)) (pa_cons (pv 7) pa_nil)))) (pa_cons (pv 2) (pa_cons (pv 3) pa_nil))))) (pss_cons (ps_set (i := 14) sc.nd rfl (by first | exact .inl rfl | exact .inr rfl) (pe_cF (o_sums T) (hr.mono (by decide)) (by rfl) (pa_cons (pe_cF (o_book_of T) (hr.mono (by decide)) (by rfl) (pa_cons (pv 5) (pa_cons (pe_tup pa_nil) (pa_cons (pe_cF (o_law_turned T) (hr.mono (by decide)) (by rfl) (pa_cons (pv 7) pa_nil)) pa_nil)))) (pa_cons (pv 2) (pa_cons (pv 3) pa_nil))))) (pss_cons (ps_set (i := 15) sc.nd rfl (by first | exact .inl rfl | exact .inr rfl) (pe_tup (pa_cons (pe_ix ix_tup (pv 8) pe_int (fun _ _ => rfl)) (pa_cons (pe_ix ix_tup (pv 8) pe_int (fun _ _ => rfl)) pa_nil)))) (pss_one (ps_ret (pe_and (pe_cmpR (op_eqD hr.units) (pe_tup (pa_cons (pe_ix ix_tup (pv 13) pe_int (fun _ _ => rfl)) (pa_cons (pe_ix ix_tup (pv 13) pe_int (fun _ _ => rfl)) pa_nil))) (pv 15) (nomark _)) (pe_one (pe_cmpR (op_eqD hr.units) (pe_tup (pa_cons (pe_op op_sub pe_int (pe_ix ix_tup (pv 14) pe_int (fun _ _ => rfl))) (pa_cons (pe_op op_sub pe_int (pe_ix ix_tup (pv 14) pe_int (fun _ _ => rfl))) pa_nil))) (pv 15) (nomark _))))))))) pss_nil) (pss_one (ps_ret pe_bl))))))))))
theorem o_law (T : Tx P w K mg base) {fd : FuncData} (F : FunD K d_law.name d_law.qual d_law.params d_law.body d_law.scope (d_law.dvs K) (d_law.kws K) (He.fAd K d_law.at_) fd) : FnOk P w K mg base CX0 12 (He.fAd K d_law.at_) fd ["_law_script"] (sp_law K (clK K)) := by
  have sc : FnScope ["_law_script", "_law_pool_here", "_law_head", "_law_tables_here", "_law_wide", "_law_key", "_law_many", "_law_rules", "_law_k", "_law_rows_here", "_law_book", "_law_some", "_law_number", "_law_t", "_law_c"] ["_law_script"] (defScope s_law) := ⟨rfl, rfl, rfl, by decide +kernel, rfl, by decide +kernel, by decide +kernel⟩
  refine F.ok sc (fun vs H Q E h => spP_len (Rof.len (n := 1) fun _ => rfl) h) fun cdv A outer s H vs Q E hr h => ⟨t_law K (clK K), PSs.nox ?_, spP_of (tt := t_law) (N := ["_law_script", "_law_pool_here", "_law_head", "_law_tables_here", "_law_wide", "_law_key", "_law_many", "_law_rules", "_law_k", "_law_rows_here", "_law_book", "_law_some", "_law_number", "_law_t", "_law_c"]) (Rof.len (n := 1) fun _ => rfl) (by decide) (fun F hK hc ds d r => wp_law F ds d r) vs H Q E h⟩
  exact (pss_cons (ps_set (i := 1) sc.nd rfl (by first | exact .inl rfl | exact .inr rfl) (pe_cF (o_law_pool T) (hr.mono (by decide)) (by rfl) (pa_cons (pe_cF (o_law_cell_at T) (hr.mono (by decide)) (by rfl) (pa_cons (pv 0) (pa_cons pe_int pa_nil))) pa_nil))) (pss_cons (ps_set (i := 2) sc.nd rfl (by first | exact .inl rfl | exact .inr rfl) (pe_cF (o_law_cell_at T) (hr.mono (by decide)) (by rfl) (pa_cons (pv 0) (pa_cons pe_int pa_nil)))) (pss_cons (ps_set (i := 3) sc.nd rfl (by first | exact .inl rfl | exact .inr rfl) (pe_callTy call_tupleQ (by rfl) T.f_tuple bt_tuple (pa_cons (pe_lc (own := [("_law_wide", 4), ("_law_key", 5)]) (g := (gTup K 2 (gCons (gName 4) (gCons (gName 5) gNil)))) (tt := tYes) rfl sc.nd (pi_tup (pe_cF (o_law_tables T) (hr.mono (by decide)) (by rfl) (pa_cons (pe_cF (o_law_cell_at T) (hr.mono (by decide)) (by rfl) (pa_cons (pv 0) (pa_cons pe_int pa_nil))) (pa_cons pe_int pa_nil)))) (blkOk_by (own := [("_law_wide", 4), ("_law_key", 5)]) (by kernel_rfl)) (fun _ _ _ _ _ => (pg_tup rfl (pgs_cons (pg_name (i := 4) sc.nd rfl (by first | exact .inl rfl | exact .inr rfl)) (pgs_cons (pg_name (i := 5) sc.nd rfl (by first | exact .inl rfl | exact .inr rfl)) pgs_nil)))) (fun _ _ _ _ _ => pts_nil) (fun _ _ _ _ _ => (pe_tup (pa_cons (pe_callB (call_min2Q rfl) (by rfl) T.f_min bt_min (pa_cons (pv 4) (pa_cons pe_int pa_nil))) (pa_cons (pe_callB (call_min2Q rfl) (by rfl) T.f_min bt_min (pa_cons (pv 5) (pa_cons pe_int pa_nil))) pa_nil))))) pa_nil))) (pss_cons (ps_set (i := 6) sc.nd rfl (by first | exact .inl rfl | exact .inr rfl) (pe_op op_mulW (pe_op op_mod (pv 2) pe_int) (pe_op op_add pe_int (pe_op op_mod (pe_op op_fdivW (pv 2) pe_int) pe_int)))) (pss_cons (ps_set (i := 7) sc.nd rfl (by first | exact .inl rfl | exact .inr rfl) (pe_callTy call_tupleQ (by rfl) T.f_tuple bt_tuple (pa_cons (pe_lc (own := [("_law_k", 8)]) (g := (gName 8)) (tt := tYes) rfl sc.nd (pi_range1 (by rfl) T.f_range (pa_cons (pv 6) pa_nil)) (blkOk_by (own := [("_law_k", 8)]) (by kernel_rfl)) (fun _ _ _ _ _ => (pg_name (i := 8) sc.nd rfl (by first | exact .inl rfl | exact .inr rfl))) (fun _ _ _ _ _ => pts_nil) (fun _ _ _ _ _ => (pe_cF (o_law_rule T) (hr.mono (by decide)) (by rfl) (pa_cons (pe_cF (o_law_cell_at T) (hr.mono (by decide)) (by rfl) (pa_cons (pv 0) (pa_cons (pe_op op_add pe_int (pv 8)) pa_nil))) (pa_cons (pv 3) (pa_cons (pv 1) pa_nil)))))) pa_nil))) (pss_cons (ps_set (i := 9) sc.nd rfl (by first | exact .inl rfl | exact .inr rfl) (pe_slice sl_tupA (pe_cF (o_law_rows T) (hr.mono (by decide)) (by rfl) (pa_cons (pe_slice sl_list (pv 0) (po_some pe_int) (po_some pe_int)) (pa_cons (pv 3) (pa_cons (pv 1) (pa_cons (pe_op op_add pe_int (pe_op op_mod (pe_op op_fdivW (pv 2) pe_int) pe_int)) pa_nil))))) po_none (po_some pe_int))) (pss_cons (ps_set (i := 10) sc.nd rfl (by first | exact .inl rfl | exact .inr rfl) (pe_cF (o_book_of T) (hr.mono (by decide)) (by rfl) (pa_cons (pv 3) (pa_cons (pv 7) (pa_cons (pv 9) pa_nil))))) (pss_cons (ps_setLc (i := 11) (own := [("_law_number", 12)]) (g := (gName 12)) (tt := tYes) rfl sc.nd rfl rfl (sw_true rfl rfl rfl (by kernel_rfl)) (pi_range1 (by rfl) T.f_range (pa_cons (pe_cF (o_many_mended T) (hr.mono (by decide)) (by rfl) (pa_cons (pv 10) pa_nil)) pa_nil)) (blkOk_by (own := [("_law_number", 12)]) (by kernel_rfl)) (fun _ _ _ _ _ => (pg_name (i := 12) sc.nd rfl (by first | exact .inl rfl | exact .inr rfl))) (fun _ _ _ _ _ => pts_nil) (fun _ _ _ _ _ => (pe_cF (o_mended_at T) (hr.mono (by decide)) (by rfl) (pa_cons (pv 10) (pa_cons (pv 12) pa_nil))))) (pss_cons (ps_for PassesOwn.never rfl (pi_range1 (by rfl) T.f_range (pa_cons (pe_callB call_lenQ (by rfl) T.f_len bt_len (pa_cons (pv 3) pa_nil)) pa_nil)) (pg_name (i := 13) sc.nd rfl (by first | exact .inl rfl | exact .inr rfl)) (pss_one (ps_for PassesOwn.never rfl (pi_range1 (by rfl) T.f_range (pa_cons (pe_ix ix_tup (pe_ix ix_tup (pv 3) (pv 13) (fun _ _ => rfl)) pe_int (fun _ _ => rfl)) pa_nil)) (pg_name (i := 14) sc.nd rfl (by first | exact .inl rfl | exact .inr rfl)) (pss_one (ps_if (pt_not (pt_val (pe_cF (o_law_column_right T) (hr.mono (by decide)) (by rfl) (pa_cons (pv 10) (pa_cons (pv 11) (pa_cons (pv 13) (pa_cons (pv 14) (pa_cons (pe_cF (o_law_idle T) (hr.mono (by decide)) (by rfl) (pa_cons (pe_op op_fdivW (pv 2) pe_int) (pa_cons (pv 3) pa_nil))) pa_nil)))))))) (pss_one (ps_ret pe_bl)) pss_nil))))) (pss_one (ps_ret pe_bl)))))))))))
end
end Md
namespace Md
open PySem PySem.Spec PyProof.Rows L2
/-- what the law is asked with, and what it is to answer -/
theorem law_says {K : PySem.W.Frag} {H : Hp} {a : Addr} {ns : List Int} (hl : ns.length ≤ 63) (hS : SqL K H a (ns.map V.int)) : sp_law K (clK K) [.ref a] H (fun v _ => v = .bl true) fun _ _ _ => False := by
  refine ⟨fun _ => false, [intsL ns], .bl true, ⟨ns, hl, rfl, rfl⟩, fun b h => (nomatch h), ?_, fun v H' _ r => ?_⟩
  · have e : hide (fun _ => false) H = H := by
      funext b
      rfl
    rw [e]
    exact .cons (.lst hS (RpA.of_ints ns)) .nil
  · cases r
    rfl
theorem facts {P : Program} {w : World} {K : PySem.W.Frag} {h : Heap} {mg : Str → Option Value} {f : Addr} (X : K.In h) (G : h.Ns mainGlobals mg) (hfa : mg ("law" : Str) = some (.ref f)) (c : Says K) :
    ∃ fd : FuncData, (∀ (s : Shared) (v : Value), BindsTo s fd ⟨[v], []⟩ [("_law_script", v)]) ∧ ∀ base : Heap, K.In base → base.Ns mainGlobals mg → FnOk P w K mg base CX0 12 f fd ["_law_script"] (sp_law K (clK K)) := by
  have s : He.SaysD fa fn K := congrArg Prod.fst c
  obtain ⟨fd, F⟩ := s.def_ 78 (d := d_law) rfl
  have e := hfa.symm.trans (Tx.g_law (P := P) (w := w) (base := h) ⟨⟨h, X, G⟩, c⟩)
  cases e
  have b := FunD.bindsA (ps := ["_law_script"]) F fun _ _ _ _ _ _ us hl => match us, hl with | [_], _ => rfl
  refine ⟨fd, fun s v => b s [v] rfl, fun base _ _ => ?_⟩
  exact o_law (P := P) (w := w) (K := K) (mg := mg) (base := base) ⟨⟨h, X, G⟩, c⟩ F
end Md
open PySem PySem.W PySem.Calls PyProof.Rows
theorem PySem.Challenge.cw_mendsure_k93_whole_sums_holds : PySem.Challenge.rw_mendsure_k93_whole_sums.Holds := by
  w_on; o_law
  refine HandSHeadRun.head_any (r := OpenLaw.row PySem.Challenge.rw_mendsure_k93_whole_sums) (q := view (OpenLaw.row PySem.Challenge.rw_mendsure_k93_whole_sums).prog [94]) (H := Md.hk) (ob := Md.ob) (M := 8000) (loose := Md.names) (d := HandSHeadRun.topDef (OpenLaw.row PySem.Challenge.rw_mendsure_k93_whole_sums).prog 94) (kwd := []) Md.ob_eq
    (by kernel_rfl) (fun s => by kernel_rfl) Md.run (by kernel_rfl) (by kernel_rfl) (by kernel_rfl) (by rfl) (by first | assumption | decide +kernel) (by decide +kernel) ⟨rfl, rfl, rfl, rfl, rfl, by decide +kernel⟩ ?hw ?hc
  case hw => w_witness2
  case hc =>
    refine L2.walk_ofE (l := PySem.Challenge.rw_mendsure_k93_whole_sums) (n := 63) (k := 12) (x := "_law_script") (CX := L2.CX0) rfl (by decide) (by kernel_rfl) ⟨rfl, by decide, by decide⟩ ?F (fun _ _ _ _ z => z)
    intro w mg fa h Y G hmg0
    obtain ⟨K, KX, c⟩ := Y
    have hmg : mg ("law" : PySem.Str) = some (.ref fa) := by
      have e : (HandSHeadRun.topDef (OpenLaw.row PySem.Challenge.rw_mendsure_k93_whole_sums).prog 94).name = ("law" : PySem.Str) := by kernel_rfl
      rw [← e]
      exact hmg0
    obtain ⟨fd, hb, hF⟩ := Md.facts (P := (PySem.Challenge.rw_mendsure_k93_whole_sums).prog) (w := w) KX G hmg c
    exact ⟨K, fd, Md.sp_law K (Md.clK K), KX, hb, fun H a ns hl _ hS => Md.law_says hl hS, hF⟩
